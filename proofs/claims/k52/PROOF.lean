import PyProof.Rows.All
import Wide.All
import OpenK.AllK
import Wide.FinOn
import HandS.ForMost
import HandS.ForExc
import HandS.Wide
import HandS.Zip
import HandS.TupAny
import HandS.TupMul
import HandS.TupLe
import HandS.IsInst
import KE.KDictPairs
import KE.SortData
import KE.DataFind
import HandS.ExcIs
import HandS.ExcOwn
import HandS.Text
import HandS.Replace
import HandS.Small
import HandS.Deep
import KE.KTabLook
import HandS.SetKeys
import HandS.SetFor
import HandS.Style
import HandS.Conv
import HandS.FStr
import HandS.RaiseMore
import HandS.Dict
import KE.GoesEnum
import PyProof.EnumMake
import HandS.NoneIn
import KE.GoesRaise
import PySem.Challenge.RW_measureforms_k52_whole_notation
set_option Elab.async false
set_option linter.all false
set_option maxRecDepth 100000
set_option maxHeartbeats 1000000
namespace Mf
open PySem L2
abbrev NewT (H : Hp) (Q : VK) (xs : List V) : Prop := ∀ p o, H p = none → o.dict = none → Q (.ref p) (upd H p (.frz o (.tup xs)))
section
variable {X : Cx} {es : List Expr} {t : TA} {pos : Pos}
theorem laidT {pins : List (Addr × Obj)} {σ : L2.St} {H : Hp} {s : Shared} {Q : VK} {xs : List V} {its : List Value} (I : Inv X pins σ H s) (r : Vals xs its) (hz : xs.length ≤ sizeLine) (q : NewT H Q xs) :
    EP X pins σ Q (.ref s.heap.objs.size) { s with heap := s.heap.push { cls := .type "tuple", data := .seq its.toArray } } := by
  refine ⟨.ref s.heap.objs.size, _, I.laid (t' := s.toks) (o := .frz { cls := .type "tuple", data := .seq its.toArray } (.tup xs)) (fun b ob e => Heap.get?_push_of_some _ e) (Nat.le_refl _) ?_, rfl, q _ { cls := .type "tuple", data := .seq its.toArray } (I.hok.fresh (Nat.le_refl _)) rfl⟩
  exact ⟨Heap.get?_push_size _ rfl, hz, its, r, ⟨_, Heap.get?_push_size _ rfl, rfl, _, rfl⟩⟩
def tTupZ (t : TA) : TE := fun σ H Q => t σ H fun xs H1 => xs.length ≤ sizeLine ∧ NewT H1 Q xs
theorem pe_tupZ {x1 : Nat} (h : PA X es t) : PE X (.Tuple es x1 pos) (tTupZ t) :=
  ⟨fun pins s σ H Q I hq => wpAny_Tuple_spliced (thn (h.run pos pins s σ H _ I hq) fun us s1 ⟨xs, H1, I1, r, z, q⟩ => ⟨by rw [← r.length]; exact z, laidT I1 r z q⟩)⟩
def rCatZ (K : PySem.W.Frag) : R2 := fun x y H Q => ∃ a b xs ys, x = .ref a ∧ y = .ref b ∧ SqT K H a xs ∧ SqT K H b ys ∧ xs.length + ys.length ≤ sizeLine ∧ (xs = [] → Q (.ref b) H) ∧ (ys = [] → Q (.ref a) H) ∧ NewT H Q (xs ++ ys)
theorem op_catZ : OpR X (binaryOp .Add) (rCatZ X.K) := by
  intro pins s σ H x y v u Q I rx ry h
  obtain ⟨a, b, xs, ys, rfl, rfl, ha, hb, hz, q0, q1, q2⟩ := h
  cases rx; cases ry
  obtain ⟨i1, r1, p1, _⟩ := I.tuple ha
  obtain ⟨i2, r2, p2, _⟩ := I.tuple hb
  by_cases hx : xs = []
  · subst hx
    cases r1
    exact cat_tup0 p1 p2 ⟨.ref b, H, I, rfl, q0 rfl⟩
  · refine HT.cat_tup p1 p2 (fun z => hx (r1.nil_iff.mp z)) (fun z => ⟨.ref a, H, I, rfl, q1 (r2.nil_iff.mp z)⟩) (fun z => ?_) (by rw [← r1.length, ← r2.length]; exact hz)
    exact laidT (its := i1 ++ i2) I (r1.append r2) (by rw [List.length_append]; exact hz) q2
def rSlZ (K : PySem.W.Frag) : V → Option Int → Option Int → Hp → VK → Prop := fun x lo hi H Q => ∃ a xs, x = .ref a ∧ SqT K H a xs ∧ (cutV xs lo hi = xs → Q (.ref a) H) ∧ NewT H Q (cutV xs lo hi)
theorem sl_tupZ : SlR X (rSlZ X.K) := by
  intro pins s σ H x v vl vu lo hi sl Q I rx hs pl pu h
  obtain ⟨a, xs, rfl, hx, q1, q2⟩ := h
  cases rx
  obtain ⟨its, r, ht, hz⟩ := I.tuple hx
  have hlen : its.toArray.size = xs.length := by rw [List.size_toArray]; exact r.length.symm
  refine ⟨"tuple", _, PyProof.Rows.slot_tuple_getitem.lookup, ht.typeIs, ?_⟩
  by_cases hw : HT.sIx xs.length 0 lo = 0 ∧ HT.sIx xs.length xs.length hi = xs.length
  · refine getItem_tuple_whole ht hs pl pu (by rw [hlen]; exact hw) ⟨.ref a, H, I, rfl, q1 ?_⟩
    unfold cutV
    rw [hw.1, hw.2, List.drop_zero, Nat.sub_zero, List.take_length]
  · refine HT.getItem_tuple_cut ht hs pl pu (by rw [hlen]; exact hw) ?_ (by rw [hlen]; exact hz)
    rw [hlen]
    exact laidT I ((r.drop (HT.sIx xs.length 0 lo)).take (HT.sIx xs.length xs.length hi - HT.sIx xs.length 0 lo)) (Nat.le_trans (cutV_length xs lo hi) hz) q2
theorem call_tupleZ : CallR X (.type "tuple") (fun xs H Q => ∃ p ys, xs = [.ref p] ∧ ((SqL X.K H p ys ∧ NewT H Q ys) ∨ (SqT X.K H p ys ∧ Q (.ref p) H))) := by
  intro pins s σ H xs us Q I r h
  obtain ⟨p, ys, rfl, h⟩ := h
  obtain ⟨u, rfl, rx⟩ := vals1 r
  cases rx
  rcases h with ⟨hq, q⟩ | ⟨hq, q⟩
  · obtain ⟨its, r', pl, hz⟩ := I.list hq
    have hlen := r'.length
    refine call_tuple_list pl.isList (fun h' kp => ?_) (by simp only [List.size_toArray] <;> omega)
    exact laidT (I.kept (h' := h') (t' := s.toks) kp) r' hz q
  · obtain ⟨its, r', pl, hz⟩ := I.tuple hq
    exact call_tuple_same pl ⟨.ref p, H, I, rfl, q⟩
def rRepZ (K : PySem.W.Frag) : R2 := fun x y H Q => ∃ l k xs, x = .ref l ∧ y = .int k ∧ SqT K H l xs ∧ xs ≠ [] ∧ 2 ≤ k ∧ k ≤ 1000 ∧ xs.length ≤ 1000 ∧ NewT H Q (List.replicate k.toNat xs).flatten
theorem op_repZ : OpR X (binaryOp .Mult) (rRepZ X.K) := by
  intro pins s σ H x y v u Q I rx ry h
  obtain ⟨l, k, xs, rfl, rfl, hT, hne, k2, k3, xz, q⟩ := h
  cases rx
  obtain ⟨tk, rfl⟩ := ry
  obtain ⟨its, r, ⟨⟨cls, dd, data, sl⟩, ho, hc, n, hd⟩, _⟩ := I.tuple hT
  dsimp only at hc hd
  subst hc hd
  have el : its.length = xs.length := r.length.symm
  have es : its.toArray.size = xs.length := by rw [List.size_toArray, el]
  have ie : its.toArray.isEmpty = false := by
    cases its with
    | nil => exact absurd (List.eq_nil_of_length_eq_zero el.symm) hne
    | cons _ _ => rfl
  have big : ((its.toArray.size : Nat) : Int) * k ≤ 1000000 := by
    rw [es]
    exact Int.le_trans (Int.mul_le_mul_of_nonneg_right (show ((xs.length : Nat) : Int) ≤ 1000 by omega) (by omega)) (by omega)
  have m6 : k.toNat * xs.length ≤ 1000 * 1000 := Nat.mul_le_mul (by omega) xz
  have a0 : (decide (k < -(2 ^ 63)) || decide (k ≥ 2 ^ 63)) = false := by simp only [Bool.or_eq_false_iff, decide_eq_false_iff_not]; omega
  have a1 : (its.toArray.isEmpty || k == 1) = false := by rw [ie, Bool.false_or, beq_eq_false_iff_ne]; omega
  have a2 : (decide (k ≤ 0) || its.toArray.isEmpty) = false := by rw [ie, Bool.or_false, decide_eq_false_iff_not]; omega
  have a4 : Builtin.Tuple.tupleTooMany (((its.toArray.size : Nat) : Int) * k) = false := by
    unfold Builtin.Tuple.tupleTooMany
    rw [sizeLine_eq, decide_eq_false_iff_not]
    omega
  have fl : (List.replicate k.toNat its).flatten.length ≤ sizeLine := by
    rw [PyProof.Rows.lm_len_rep_flat, el, sizeLine_eq]
    omega
  refine wpAny_binaryOp_repeat_ref (T := "tuple") (U := "int") (by decide) ⟨_, ho, rfl⟩ (fun s' => typeIs_int s' k tk) noFill_tuple_mul F.fills_int_mul F.slot_int_rmul repeat_tuple F.slot_int_index.lookup
    (call_meets F.slot_int_rmul (typeIs_int s k tk) F.entry_int_rmul (F.args_int_rmul_2 _ _) (int_rmul_tuple k tk l its.toArray n dd sl)
      ⟨ho, rfl, ⟨_, ho, rfl⟩, call_meets F.slot_tuple_mul ⟨_, ho, rfl⟩ F.entry_tuple_mul (F.args_tuple_mul_2 _ _)
        (tuple_mulW l its.toArray n dd sl k tk a0 a1 a2 (by omega) a4 (by rw [size_rep, List.size_toArray]; exact fl)) ⟨ho, ?_⟩⟩)
  rw [size_rep]
  exact laidT I (r.rep k.toNat) (by rw [PyProof.Rows.lm_len_rep_flat, sizeLine_eq]; omega) q
end
end Mf
set_option Elab.async false
set_option linter.all false
set_option maxRecDepth 100000
set_option maxHeartbeats 1000000
namespace Mf
open PySem L2

inductive D where
  | non | bl (b : Bool) | int (i : Int) | str (x : Str) | tup (ds : List D) | lst (ds : List D) | dct (kvs : List (Str × D)) | adr (a : Addr) | scr (ns : List Int) | exn (x : Str)

def Pt (K : PySem.W.Frag) (F : Hp) (a : Addr) : Prop := (∃ o u, F a = some (.frz o u) ∧ o.dict = none) ∨ ∃ o, K.lookup a = some o ∧ o.dict = none
def excP (a C : Addr) : Heap → Prop := fun h => ∃ o vs, h.get? a = some o ∧ o.cls = .ref C ∧ o.dict = none ∧ o.data = .fields vs
mutual
inductive Rep (K : PySem.W.Frag) (F : Hp) : V → D → Prop
  | non : Rep K F .non .non
  | bl (b : Bool) : Rep K F (.bl b) (.bl b)
  | int (i : Int) : Rep K F (.int i) (.int i)
  | str (x : Str) : Rep K F (.str x) (.str x)
  | adr (a : Addr) : Rep K F (.ref a) (.adr a)
  | scr {a : Addr} {ns : List Int} : SqL K F a (ns.map V.int) → Rep K F (.ref a) (.scr ns)
  | tup {a : Addr} {vs : List V} {ds : List D} : SqT K F a vs → Pt K F a → Reps K F vs ds → Rep K F (.ref a) (.tup ds)
  | lst {a : Addr} {vs : List V} {ds : List D} : F a = some (.lst vs) → Reps K F vs ds → Rep K F (.ref a) (.lst ds)
  | dct {a : Addr} {kvs : List (Key × V)} {es : List (Str × D)} : F a = some (.dK kvs) → RepK K F kvs es → Rep K F (.ref a) (.dct es)
  | exn {a C : Addr} {x : Str} : PySem.W.nsIn K mainGlobals x = some (some (.ref C)) → F a = some (.ext (excP a C)) → Rep K F (.ref a) (.exn x)
inductive Reps (K : PySem.W.Frag) (F : Hp) : List V → List D → Prop
  | nil : Reps K F [] []
  | cons {v : V} {vs : List V} {d : D} {ds : List D} : Rep K F v d → Reps K F vs ds → Reps K F (v :: vs) (d :: ds)
inductive RepK (K : PySem.W.Frag) (F : Hp) : List (Key × V) → List (Str × D) → Prop
  | nil : RepK K F [] []
  | cons {x : Str} {v : V} {d : D} {kvs : List (Key × V)} {es : List (Str × D)} : Rep K F v d → RepK K F kvs es → RepK K F ((.inr x, v) :: kvs) ((x, d) :: es)
end

def Sub (F F' : Hp) : Prop := ∀ a o, F a = some o → F' a = some o
theorem Sub.refl (F : Hp) : Sub F F := fun _ _ h => h
theorem Sub.trans {F F1 F2 : Hp} (a : Sub F F1) (b : Sub F1 F2) : Sub F F2 := fun x o h => b x o (a x o h)
theorem Sub.new {F : Hp} {p : Addr} {o : HO} (h : F p = none) : Sub F (upd F p o) := fun a u e => by
  rw [upd_ne (ne_of_none e h)]
  exact e
theorem sqT_sub {K : PySem.W.Frag} {F F' : Hp} {a : Addr} {xs : List V} (e : Sub F F') (h : SqT K F a xs) : SqT K F' a xs := by
  rcases h with (h | ⟨o, h⟩) | h
  · exact .inl (.inl (e _ _ h))
  · exact .inl (.inr ⟨o, e _ _ h⟩)
  · exact .inr h
theorem Pt.sub {K : PySem.W.Frag} {F F' : Hp} {a : Addr} (e : Sub F F') (h : Pt K F a) : Pt K F' a := by
  rcases h with ⟨o, u, h, d⟩ | h
  · exact .inl ⟨o, u, e _ _ h, d⟩
  · exact .inr h
theorem sqL_sub {K : PySem.W.Frag} {F F' : Hp} {a : Addr} {xs : List V} (e : Sub F F') (h : SqL K F a xs) : SqL K F' a xs := by
  rcases h with (h | ⟨o, h⟩) | h
  · exact .inl (.inl (e _ _ h))
  · exact .inl (.inr ⟨o, e _ _ h⟩)
  · exact .inr h
mutual
theorem Rep.mono {K : PySem.W.Frag} {F F' : Hp} (e : Sub F F') : ∀ {v : V} {d : D}, Rep K F v d → Rep K F' v d
  | _, _, .non => .non
  | _, _, .bl b => .bl b
  | _, _, .int i => .int i
  | _, _, .str x => .str x
  | _, _, .adr a => .adr a
  | _, _, .scr h => .scr (sqL_sub e h)
  | _, _, .tup h t r => .tup (sqT_sub e h) (Pt.sub e t) (Reps.mono e r)
  | _, _, .lst h r => .lst (e _ _ h) (Reps.mono e r)
  | _, _, .dct h r => .dct (e _ _ h) (RepK.mono e r)
  | _, _, .exn h q => .exn h (e _ _ q)
theorem Reps.mono {K : PySem.W.Frag} {F F' : Hp} (e : Sub F F') : ∀ {vs : List V} {ds : List D}, Reps K F vs ds → Reps K F' vs ds
  | _, _, .nil => .nil
  | _, _, .cons h r => .cons (Rep.mono e h) (Reps.mono e r)
theorem RepK.mono {K : PySem.W.Frag} {F F' : Hp} (e : Sub F F') : ∀ {vs : List (Key × V)} {ds : List (Str × D)}, RepK K F vs ds → RepK K F' vs ds
  | _, _, .nil => .nil
  | _, _, .cons h r => .cons (Rep.mono e h) (RepK.mono e r)
end
section
variable {K : PySem.W.Frag} {F : Hp}
theorem Reps.length : ∀ {vs : List V} {ds : List D}, Reps K F vs ds → vs.length = ds.length
  | _, _, .nil => rfl
  | _, _, .cons _ r => congrArg (· + 1) (Reps.length r)
theorem Reps.get : ∀ {vs : List V} {ds : List D} {i : Nat} {d : D}, Reps K F vs ds → ds[i]? = some d → ∃ v, vs[i]? = some v ∧ Rep K F v d
  | _, _, _, _, .nil, e => by simp at e
  | _, _, 0, _, .cons h _, e => by simp at e; subst e; exact ⟨_, rfl, h⟩
  | _, _, i + 1, d, .cons _ t, e => by
    obtain ⟨v, h1, h2⟩ := Reps.get (i := i) (d := d) t (by simpa using e)
    exact ⟨v, by simpa using h1, h2⟩
theorem Reps.append : ∀ {xs ys : List V} {us ws : List D}, Reps K F xs us → Reps K F ys ws → Reps K F (xs ++ ys) (us ++ ws)
  | _, _, _, _, .nil, s => s
  | _, _, _, _, .cons r t, s => .cons r (Reps.append t s)
theorem Reps.take : ∀ {xs : List V} {us : List D} (n : Nat), Reps K F xs us → Reps K F (xs.take n) (us.take n)
  | _, _, 0, _ => .nil
  | _, _, _ + 1, .nil => .nil
  | _, _, n + 1, .cons r t => .cons r (Reps.take n t)
theorem Reps.drop : ∀ {xs : List V} {us : List D} (n : Nat), Reps K F xs us → Reps K F (xs.drop n) (us.drop n)
  | _, _, 0, r => r
  | _, _, _ + 1, .nil => .nil
  | _, _, n + 1, .cons _ t => Reps.drop n t
theorem Reps.set {x : V} {u : D} (r : Rep K F x u) : ∀ {xs : List V} {us : List D} (i : Nat), Reps K F xs us → Reps K F (xs.set i x) (us.set i u)
  | _, _, _, .nil => .nil
  | _, _, 0, .cons _ t => .cons r t
  | _, _, i + 1, .cons q t => .cons q (Reps.set r i t)
theorem Reps.erase : ∀ {xs : List V} {us : List D} (n : Nat), Reps K F xs us → Reps K F (xs.eraseIdx n) (us.eraseIdx n)
  | _, _, _, .nil => .nil
  | _, _, 0, .cons _ t => t
  | _, _, n + 1, .cons r t => .cons r (Reps.erase n t)
theorem Reps.rep {xs : List V} {us : List D} (r : Reps K F xs us) : ∀ n : Nat, Reps K F (List.replicate n xs).flatten (List.replicate n us).flatten
  | 0 => .nil
  | n + 1 => by
    rw [List.replicate_succ, List.replicate_succ, List.flatten_cons, List.flatten_cons]
    exact r.append (Reps.rep r n)
theorem Reps.rev : ∀ {xs : List V} {us : List D}, Reps K F xs us → Reps K F xs.reverse us.reverse
  | _, _, .nil => .nil
  | _, _, .cons h t => by
    rw [List.reverse_cons, List.reverse_cons]
    exact (Reps.rev t).append (.cons h .nil)
end

structure Sys where
  S : Type
  G : Type
  ok : S → G → Hp → Hp → Prop
  dm : G → Addr → Prop
  keep : ∀ s g F F' H H', ok s g F H → Sub F F' → (∀ a, dm g a → H' a = H a) → ok s g F' H'

structure Cf (Y : Sys) where
  F : Hp
  H : Hp
  s : Y.S
  g : Y.G

structure Ok {Y : Sys} (c : Cf Y) : Prop where
  sub : Sub c.F c.H
  cel : Y.ok c.s c.g c.F c.H
  dis : ∀ a, Y.dm c.g a → c.F a = none
  has : ∀ a, Y.dm c.g a → c.H a ≠ none

structure Step {Y : Sys} (c c' : Cf Y) : Prop where
  f : Sub c.F c'.F
  h : ∀ a o, c.H a = some o → ¬ Y.dm c.g a → c'.H a = some o
  n : ∀ a, c.H a ≠ none → c.F a = none → c'.F a = none
  d : ∀ a, Y.dm c.g a → Y.dm c'.g a
  g : ∀ a, c.H a ≠ none → Y.dm c'.g a → Y.dm c.g a

section
variable {Y : Sys} {c c1 c2 : Cf Y}
theorem Step.refl (c : Cf Y) : Step c c := ⟨Sub.refl _, fun _ _ h _ => h, fun _ _ h => h, fun _ h => h, fun _ _ h => h⟩
theorem Step.ne (t : Step c c1) (k : Ok c1) {a : Addr} (h : c.H a ≠ none) : c1.H a ≠ none := by
  by_cases q : Y.dm c.g a
  · exact k.has a (t.d a q)
  · cases e : c.H a with
    | none => exact absurd e h
    | some o => rw [t.h a o e q]; exact fun z => nomatch z
theorem Step.back (t : Step c c1) (k : Ok c1) {a : Addr} (h : c1.H a = none) : c.H a = none := by
  cases e : c.H a with
  | none => rfl
  | some o => exact absurd h (t.ne k (by rw [e]; exact fun z => nomatch z))
theorem Step.trans (t : Step c c1) (k : Ok c1) (u : Step c1 c2) : Step c c2 where
  f := t.f.trans u.f
  h := fun a o e nd => u.h a o (t.h a o e nd) fun z => nd (t.g a (by rw [e]; exact fun z => nomatch z) z)
  n := fun a e nf => u.n a (t.ne k e) (t.n a e nf)
  d := fun a z => u.d a (t.d a z)
  g := fun a e z => t.g a e (u.g a (t.ne k e) z)
theorem Ok.new (k : Ok c) {p : Addr} (hp : c.H p = none) (o : HO) : Ok (⟨upd c.F p o, upd c.H p o, c.s, c.g⟩ : Cf Y) where
  sub := fun a u e => by
    have e : upd c.F p o a = some u := e
    show upd c.H p o a = some u
    by_cases q : a = p
    · subst q
      rw [upd_same] at e ⊢
      exact e
    · rw [upd_ne q] at e
      rw [upd_ne q]
      exact k.sub a u e
  cel := Y.keep _ _ _ _ _ _ k.cel (Sub.new (by
    cases e : c.F p with
    | none => rfl
    | some u => rw [k.sub _ _ e] at hp; cases hp)) fun a z => upd_ne (show a ≠ p from fun e => k.has a z (by rw [e]; exact hp))
  dis := fun a z => by
    show upd c.F p o a = none
    rw [upd_ne (show a ≠ p from fun e => k.has a z (by rw [e]; exact hp))]
    exact k.dis a z
  has := fun a z => by
    show upd c.H p o a ≠ none
    rw [upd_ne (show a ≠ p from fun e => k.has a z (by rw [e]; exact hp))]
    exact k.has a z
theorem Step.new (k : Ok c) {p : Addr} (hp : c.H p = none) (o : HO) : Step c (⟨upd c.F p o, upd c.H p o, c.s, c.g⟩ : Cf Y) where
  f := Sub.new (by
    cases e : c.F p with
    | none => rfl
    | some u => rw [k.sub _ _ e] at hp; cases hp)
  h := fun a u e _ => by
    show upd c.H p o a = some u
    rw [upd_ne (ne_of_none e hp)]
    exact e
  n := fun a e nf => by
    show upd c.F p o a = none
    rw [upd_ne (show a ≠ p from fun z => e (by rw [z]; exact hp))]
    exact nf
  d := fun _ z => z
  g := fun _ _ z => z
theorem Ok.own (k : Ok c) {p : Addr} (hp : c.H p = none) (o : HO) : Ok (⟨c.F, upd c.H p o, c.s, c.g⟩ : Cf Y) where
  sub := fun a u e => by
    show upd c.H p o a = some u
    have q := k.sub a u e
    rw [upd_ne (ne_of_none q hp)]
    exact q
  cel := Y.keep _ _ _ _ _ _ k.cel (Sub.refl _) fun a z => upd_ne (show a ≠ p from fun e => k.has a z (by rw [e]; exact hp))
  dis := k.dis
  has := fun a z => by
    show upd c.H p o a ≠ none
    rw [upd_ne (show a ≠ p from fun e => k.has a z (by rw [e]; exact hp))]
    exact k.has a z
theorem Step.own (k : Ok c) {p : Addr} (hp : c.H p = none) (o : HO) : Step c (⟨c.F, upd c.H p o, c.s, c.g⟩ : Cf Y) where
  f := Sub.refl _
  h := fun a u e _ => by
    show upd c.H p o a = some u
    rw [upd_ne (ne_of_none e hp)]
    exact e
  n := fun _ _ nf => nf
  d := fun _ z => z
  g := fun _ _ z => z
theorem Ok.mut (k : Ok c) {p : Addr} (hf : c.F p = none) (nd : ¬ Y.dm c.g p) (o : HO) : Ok (⟨c.F, upd c.H p o, c.s, c.g⟩ : Cf Y) where
  sub := fun a u e => by
    show upd c.H p o a = some u
    rw [upd_ne (ne_of_none e hf)]
    exact k.sub a u e
  cel := Y.keep _ _ _ _ _ _ k.cel (Sub.refl _) fun a z => upd_ne (show a ≠ p from fun e => nd (e ▸ z))
  dis := k.dis
  has := fun a z => by
    show upd c.H p o a ≠ none
    rw [upd_ne (show a ≠ p from fun e => nd (e ▸ z))]
    exact k.has a z
theorem Step.mut {c0 : Cf Y} (t : Step c0 c) {p : Addr} (h0 : c0.H p = none) (o : HO) : Step c0 (⟨c.F, upd c.H p o, c.s, c.g⟩ : Cf Y) where
  f := t.f
  h := fun a u e nd => by
    show upd c.H p o a = some u
    rw [upd_ne (ne_of_none e h0)]
    exact t.h a u e nd
  n := t.n
  d := t.d
  g := t.g
theorem Ok.frz (k : Ok c) {p : Addr} (hf : c.F p = none) (nd : ¬ Y.dm c.g p) {o : HO} (hp : c.H p = some o) : Ok (⟨upd c.F p o, c.H, c.s, c.g⟩ : Cf Y) where
  sub := fun a u e => by
    have e : upd c.F p o a = some u := e
    show c.H a = some u
    by_cases q : a = p
    · subst q
      rw [upd_same] at e
      rw [hp]
      exact e
    · rw [upd_ne q] at e
      exact k.sub a u e
  cel := Y.keep _ _ _ _ _ _ k.cel (Sub.new hf) fun _ _ => rfl
  dis := fun a z => by
    show upd c.F p o a = none
    rw [upd_ne (show a ≠ p from fun e => nd (e ▸ z))]
    exact k.dis a z
  has := k.has
theorem Step.frz {c0 : Cf Y} (t : Step c0 c) {p : Addr} (hf : c.F p = none) (h0 : c0.H p = none) (o : HO) : Step c0 (⟨upd c.F p o, c.H, c.s, c.g⟩ : Cf Y) where
  f := t.f.trans (Sub.new hf)
  h := t.h
  n := fun a e nf => by
    show upd c.F p o a = none
    rw [upd_ne (show a ≠ p from fun z => e (by rw [z]; exact h0))]
    exact t.n a e nf
  d := t.d
  g := t.g
end

def Own {Y : Sys} (K : PySem.W.Frag) (c : Cf Y) (p : Addr) (d : D) : Prop :=
  (match d with
    | .lst ds => ∃ vs, c.H p = some (.lst vs) ∧ Reps K c.F vs ds
    | .dct es => ∃ kvs, c.H p = some (.dK kvs) ∧ RepK K c.F kvs es
    | _ => False) ∧ c.F p = none ∧ ¬ Y.dm c.g p

inductive SV where
  | no | va (d : D) | ow (d : D)
inductive K3 where
  | v | t | o

section
variable {Y : Sys} {c c1 c2 : Cf Y} {K : PySem.W.Frag} {p : Addr} {d : D}
theorem Own.obj (h : Own K c p d) : c.H p ≠ none := by
  obtain ⟨h, _, _⟩ := h
  cases d with
  | lst ds => obtain ⟨vs, e, _⟩ := h; rw [e]; exact fun z => nomatch z
  | dct ds => obtain ⟨vs, e, _⟩ := h; rw [e]; exact fun z => nomatch z
  | _ => exact h.elim
theorem Own.step (h : Own K c p d) (t : Step c c1) : Own K c1 p d := by
  have ob := h.obj
  obtain ⟨h, hf, nd⟩ := h
  refine ⟨?_, t.n p ob hf, fun z => nd (t.g p ob z)⟩
  cases d with
  | lst ds => obtain ⟨vs, e, r⟩ := h; exact ⟨vs, t.h _ _ e nd, r.mono t.f⟩
  | dct ds => obtain ⟨vs, e, r⟩ := h; exact ⟨vs, t.h _ _ e nd, r.mono t.f⟩
  | _ => exact h.elim
theorem Own.frz (h : Own K c p d) (k : Ok c) : ∃ o, c.H p = some o ∧ Ok (⟨upd c.F p o, c.H, c.s, c.g⟩ : Cf Y) ∧ Rep K (upd c.F p o) (.ref p) d ∧ Sub c.F (upd c.F p o) := by
  obtain ⟨h, hf, nd⟩ := h
  cases d with
  | lst ds =>
    obtain ⟨vs, e, r⟩ := h
    exact ⟨_, e, k.frz hf nd e, .lst upd_same (r.mono (Sub.new hf)), Sub.new hf⟩
  | dct ds =>
    obtain ⟨vs, e, r⟩ := h
    exact ⟨_, e, k.frz hf nd e, .dct upd_same (r.mono (Sub.new hf)), Sub.new hf⟩
  | _ => exact h.elim
theorem Own.other (h : Own K c p d) {q : Addr} (n : p ≠ q) (o : HO) : Own K (⟨c.F, upd c.H q o, c.s, c.g⟩ : Cf Y) p d := by
  obtain ⟨h, hf, nd⟩ := h
  refine ⟨?_, hf, nd⟩
  cases d with
  | lst ds => obtain ⟨vs, e, r⟩ := h; exact ⟨vs, by rw [show (⟨c.F, upd c.H q o, c.s, c.g⟩ : Cf Y).H = upd c.H q o from rfl, upd_ne n]; exact e, r⟩
  | dct ds => obtain ⟨vs, e, r⟩ := h; exact ⟨vs, by rw [show (⟨c.F, upd c.H q o, c.s, c.g⟩ : Cf Y).H = upd c.H q o from rfl, upd_ne n]; exact e, r⟩
  | _ => exact h.elim
theorem Own.frzo (h : Own K c p d) {q : Addr} {o : HO} (n : p ≠ q) (hq : c.F q = none) : Own K (⟨upd c.F q o, c.H, c.s, c.g⟩ : Cf Y) p d := by
  obtain ⟨h, hf, nd⟩ := h
  refine ⟨?_, by show upd c.F q o p = none; rw [upd_ne n]; exact hf, nd⟩
  cases d with
  | lst ds => obtain ⟨vs, e, r⟩ := h; exact ⟨vs, e, r.mono (Sub.new hq)⟩
  | dct ds => obtain ⟨vs, e, r⟩ := h; exact ⟨vs, e, r.mono (Sub.new hq)⟩
  | _ => exact h.elim
end

def Is {Y : Sys} (K : PySem.W.Frag) (Hs : Hp) (c : Cf Y) : K3 → V → D → Prop
  | .v, v, d => Rep K c.F v d
  | .t, v, d => ∃ p, v = .ref p ∧ Own K c p d ∧ Hs p = none
  | .o, v, d => ∃ p, v = .ref p ∧ Own K c p d

structure Rel {Y : Sys} (K : PySem.W.Frag) (H0 : Hp) (c : Cf Y) (σ : L2.St) (ρ : List SV) : Prop where
  len : ρ.length = σ.length
  va : ∀ (i : Nat) (d : D), ρ[i]? = some (SV.va d) → ∃ v, σ[i]? = some (some v) ∧ Rep K c.F v d
  ow : ∀ (i : Nat) (d : D), ρ[i]? = some (SV.ow d) → ∃ p, σ[i]? = some (some (V.ref p)) ∧ Own K c p d ∧ H0 p = none
  ap : ∀ (i j : Nat) (d e : D) (p : Addr), i ≠ j → ρ[i]? = some (SV.ow d) → ρ[j]? = some (SV.ow e) → σ[i]? = some (some (V.ref p)) → σ[j]? ≠ some (some (V.ref p))

section
variable {Y : Sys} {c c1 c2 : Cf Y} {K : PySem.W.Frag} {Hs H0 : Hp} {k : K3} {v : V} {d : D} {σ : L2.St} {ρ : List SV}
theorem Is.step (h : Is K Hs c k v d) (t : Step c c1) : Is K Hs c1 k v d := by
  cases k with
  | v => exact Rep.mono t.f h
  | t => obtain ⟨p, e, o, z⟩ := h; exact ⟨p, e, o.step t, z⟩
  | o => obtain ⟨p, e, o⟩ := h; exact ⟨p, e, o.step t⟩
theorem Is.back {Hs' : Hp} (h : Is K Hs c k v d) (hb : ∀ a, Hs a = none → Hs' a = none) : Is K Hs' c k v d := by
  cases k with
  | v => exact h
  | t => obtain ⟨p, e, o, z⟩ := h; exact ⟨p, e, o, hb _ z⟩
  | o => exact h
theorem Rel.step (r : Rel K H0 c σ ρ) (t : Step c c1) : Rel K H0 c1 σ ρ where
  len := r.len
  va := fun i d e => let ⟨v, h, q⟩ := r.va i d e; ⟨v, h, q.mono t.f⟩
  ow := fun i d e => let ⟨p, h, q, z⟩ := r.ow i d e; ⟨p, h, q.step t, z⟩
  ap := r.ap
theorem Is.data {c0 : Cf Y} (h : Is K c0.H c k v d) (hk : k ≠ .o) (t : Step c0 c) (ok : Ok c) : ∃ c' : Cf Y, c'.s = c.s ∧ c'.H = c.H ∧ Step c0 c' ∧ Ok c' ∧ Rep K c'.F v d := by
  cases k with
  | v => exact ⟨c, rfl, rfl, t, ok, h⟩
  | o => exact absurd rfl hk
  | t =>
    obtain ⟨p, rfl, o, z⟩ := h
    obtain ⟨ob, e, ok', r, _⟩ := o.frz ok
    exact ⟨⟨upd c.F p ob, c.H, c.s, c.g⟩, rfl, rfl, t.frz o.2.1 z ob, ok', r⟩
end
end Mf
set_option Elab.async false
set_option linter.all false
set_option maxRecDepth 100000
set_option maxHeartbeats 2000000
namespace Mf
open PySem L2 PyProof.Rows
theorem excP_stay {a C : Addr} {h1 h2 : Heap} (x : excP a C h1) (k : ∀ o, h1.get? a = some o → h2.get? a = some o) : excP a C h2 := by
  obtain ⟨o, vs, e, r⟩ := x
  exact ⟨o, vs, k o e, r⟩
section
variable {X : Cx} {pins : List (Addr × Obj)} {σ : L2.St} {H : Hp} {s : Shared} {a C : Addr} {oe : Obj}
theorem track (I : Inv X ((a, oe) :: pins) σ H s) (hP : excP a C s.heap) (h0 : X.s_0.heap.get? a = none) (hp : ∀ p ∈ X.pn ++ pins, p.1 ≠ a) : Inv X pins σ (upd H a (.ext (excP a C))) s := by
  obtain ⟨ge, na, nL, nF, nc⟩ := I.pin (a, oe) (List.mem_append_right _ List.mem_cons_self)
  have mov : ∀ {b : Addr} {u : HO}, H b = some u → upd H a (.ext (excP a C)) b = some u := fun {b u} e => by rw [upd_ne (ne_of_none e na)]; exact e
  refine ⟨I.ok, I.os, I.bare, ⟨I.base.keep, I.base.slot, fun b o e n hx => ?_, I.base.there, fun b xs e => mov (I.base.tups b xs e), fun b o u e => mov (I.base.frzs b o u e), fun b ps e => ?_⟩, I.loc, I.cell, ?_, fun x c e => ?_, fun p hm => ?_, fun b u e => ?_, I.len⟩
  · rw [upd_ne (show b ≠ a from fun z => by rw [z, h0] at e; cases e)]
    exact I.base.free b o e n hx
  · obtain ⟨more, q⟩ := I.base.tbls b ps e
    exact ⟨more, mov q⟩
  · rw [upd_ne (Ne.symm nL)]
    exact I.free
  · refine (upd_ne fun z => ?_).trans (I.freeC x c e)
    obtain ⟨v, o, ho, hd⟩ := I.cell x c e
    rw [z] at ho
    have ge : s.heap.get? a = some oe := ge
    rw [ge] at ho
    cases ho
    exact nc _ hd
  · obtain ⟨g1, g2, g3⟩ := I.pin p (by
      rcases List.mem_append.mp hm with z | z
      · exact List.mem_append_left _ z
      · exact List.mem_append_right _ (List.mem_cons_of_mem _ z))
    exact ⟨g1, by rw [upd_ne (hp p hm)]; exact g2, g3⟩
  · by_cases q : b = a
    · subst q
      rw [upd_same] at e
      cases e
      exact ⟨hP, ⟨oe, ge⟩, fun h1 h2 x k => excP_stay x k⟩
    · rw [upd_ne q] at e
      exact (I.hok b u e).stay (fun _ _ _ z => z) (fun _ z => mov z) fun _ _ z => mov z
end
def eAs (X : Cx) (c : Value) (i : Nat) (ts : Addr → TS) (D : Ends) : XK := fun cls d H => ∃ C, cls = .ref C ∧ d = none ∧ PySem.W.exmOne X.K cls c = some true ∧
  ∀ (a : Addr) (σ : L2.St), σ.length = X.N.length → H a = none → ts a { nx := fun σ' H' => D.nx (σ'.set i none) (upd H' a (.ext (excP a C))), rt := fun _ _ => False } (σ.set i (some (.ref a))) H
section
variable {X : Cx} {x n : Str} {c : Value} {i : Nat} {body suite : List Stmt} {b₀ : Stmt} {np pos pos' : Pos} {tb : XK → TS} {ts : Addr → TS}
theorem ps_tryX (hs : X.stack = X.env :: X.outer) (hf : X.env.frame = some X.env.locals) (hx : X.ex = []) (hN : X.N.Nodup) (hi : X.N[i]? = some n) (hln : X.env.kindOf n = some .local) (hc : Names X x c)
    (hb : ∀ (E : XK) (pn : List (Addr × Obj)) (xe : Value → Shared → Prop), Takes (X.tr pn xe) (fun cls d _ H => E cls d H) → PassesOwn (model X.prog X.w) X.A X.env xe → PSs (X.tr pn xe) body (tb E))
    (hsu : ∀ (a : Addr) (oe : Obj) (pn : List (Addr × Obj)), PSs (X.suite a ((a, oe) :: pn)) (b₀ :: suite) (ts a)) :
    PS X (.Try body [.ExceptHandler (some (.Name x np)) (some n) (b₀ :: suite) pos'] [] [] pos) (fun D σ H => tb (eAs X c i ts D) D σ H) := by
  constructor
  intro pins s σ H D I h
  have frE : frs (X.env :: X.outer) = X.env.locals :: X.fs := by
    show List.filterMap _ (X.env :: X.outer) = _
    rw [List.filterMap_cons, hf]
    rfl
  -- behind the body
  have thru : ∀ (xe : Value → Shared → Prop) f s1, SP (X.tr (X.pn ++ pins) xe) [] D f s1 → (match f with | .next => wpAny (model X.prog X.w) X.A (execs [] X.env) (SP X pins D) X.xe s1 | f => SP X pins D f s1) := fun xe f s1 q => by
    cases f with
    | next => obtain ⟨σ1, H1, J, q⟩ := q; exact wpAny_execs_nil ⟨σ1, H1, J.ofTry I.ok, q⟩
    | brk => obtain ⟨σ1, H1, J, q⟩ := q; exact ⟨σ1, H1, J.ofTry I.ok, q⟩
    | cont => obtain ⟨σ1, H1, J, q⟩ := q; exact ⟨σ1, H1, J.ofTry I.ok, q⟩
    | ret u => obtain ⟨v, σ1, H1, J, r, q⟩ := q; exact ⟨v, σ1, H1, J.ofTry I.ok, r, q⟩
  -- the clause
  have clause : ∀ (a : Addr) (B : Heap) (sI s' : Shared) (σ1 : L2.St) (H1 : Hp) (cls : Value) (d : Option Addr), Inv X pins σ1 H1 sI → (∀ b o, sI.heap.get? b = some o → b ∉ frs X.stack → B.get? b = some o) → sI.heap.UpToSlots s'.heap →
      HandSPX.FlyingZ B (X.env :: X.outer) a (Zc cls d) s'.heap → H1 a = none → s'.os = sI.os → AllBare s'.gens → eAs X c i ts D cls d H1 →
      wpAny (model X.prog X.w) X.A (handleBy (.ref a) X.env [.ExceptHandler (some (.Name x np)) (some n) (b₀ :: suite) pos']) (SP X pins D) X.xe s' := by
    intro a B sI s' σ1 H1 cls d J nb up fl na os ag ⟨C, hC, hd, hm, wish⟩
    subst hC hd
    have Ba : B.get? a = none := fl.2.1
    obtain ⟨oe, vs, ge, hz, hv⟩ := fl.there
    have J1 : Inv X pins σ1 H1 s' := J.landed nb fl.1 up os ag
    have nfr : a ∉ frs (X.env :: X.outer) := fun z => by
      obtain ⟨_, o', e', no⟩ := fl.2.2.1.mem z
      rw [ge] at e'
      cases e'
      exact no _ hv
    have nL : a ≠ X.env.locals := fun z => nfr (by rw [frE, z]; exact List.mem_cons_self)
    have nF : a ∉ X.fs := fun z => nfr (by rw [frE]; exact List.mem_cons_of_mem _ z)
    have h0 : X.s_0.heap.get? a = none := by
      cases e : X.s_0.heap.get? a with
      | none => rfl
      | some o =>
        obtain ⟨o', e'⟩ := J.base.there a o e (by rw [hx]; exact fun z => nomatch z)
        rw [nb a o' e' (by rw [hs]; exact nfr)] at Ba
        cases Ba
    have hp : ∀ p ∈ X.pn ++ pins, p.1 ≠ a := fun p hm z => by
      obtain ⟨g1, _, g3, g4, _⟩ := J.pin p hm
      have : B.get? p.1 = some p.2 := nb p.1 p.2 g1 (by
        rw [hs, frE]
        intro q
        rcases List.mem_cons.mp q with q | q
        · exact g3 q
        · exact g4 q)
      rw [z, Ba] at this
      cases this
    have T : PySem.W.Looks (model X.prog X.w) s'.heap (typeOf (.ref a)) (.ref C) := fun A Q E s2 k q => wpAny_typeOf_ref (k _ _ ge) (by rw [hz.1]; exact q)
    have M := PySem.W.exm_one (M := model X.prog X.w) J1.kIn T hm
    have S := J1.suite ge hv na nL nF
    refine wpAny_handleBy_cons (codeAny_handlers_test ?_) (fun z => nomatch z)
    have look : ∀ {Q E : Value → Shared → Prop}, Q c s' → wpAny (model X.prog X.w) (X.A.mark (some (.ref a))) (eval (.Name x np) X.env) Q E s' := fun {Q E} q => by
      rcases hc with ⟨g, db, m | ⟨m, bv, nn⟩⟩
      · exact ld_glob (X := X.suite a ((a, oe) :: (X.pn ++ pins))) S g m q db
      · exact ld_blt (X := X.suite a ((a, oe) :: (X.pn ++ pins))) S g m bv q nn db
    refine look (M.here (codeAny_handlers_suite_as (HandSPX.lands_againZ fl fun h2 fl2 up2 => ?_)))
    obtain ⟨o2, vs2, ge2, hz2, hv2⟩ := fl2.there
    have J2 : Inv X pins σ1 H1 { s' with heap := h2 } := J.landed nb fl2.1 (up.trans up2) os ag
    refine store_ok (X := X.suite a ((a, o2) :: (X.pn ++ pins))) (v := .ref a) (J2.suite ge2 hv2 na nL nF) hN hi (.inl hln) rfl (fun s3 S3 => ?_) (.inr hln)
    refine wpAny_mono ((hsu a o2 (X.pn ++ pins)).run [] s3 _ H1 _ S3 (wish a σ1 J.len na)) (fun f s4 q => ?_) (fun _ _ z => z.elim)
    cases f with
    | next =>
      obtain ⟨σ4, H4, S4, q4⟩ := q
      have L4 : Inv X ((a, o2) :: pins) σ4 H4 s4 := ⟨I.ok, S4.os, S4.bare, S4.base, S4.loc, S4.cell, S4.free, S4.freeC, fun p hm => S4.pin p (by
        rcases List.mem_append.mp hm with z | z
        · exact List.mem_append_left _ (List.mem_cons_of_mem _ (List.mem_append_left _ z))
        · rcases List.mem_cons.mp z with z | z
          · rw [z]; exact List.mem_append_left _ List.mem_cons_self
          · exact List.mem_append_left _ (List.mem_cons_of_mem _ (List.mem_append_right _ z))), S4.hok, S4.len⟩
      refine gone_ok L4 hN hi hln fun s5 L5 => ⟨_, _, track L5 ?_ h0 hp, q4⟩
      exact ⟨o2, vs2, (L5.pin (a, o2) (List.mem_append_right _ List.mem_cons_self)).1, hz2.1, hz2.2, hv2⟩
    | brk => obtain ⟨_, _, _, z⟩ := q; exact z.elim
    | cont => obtain ⟨_, _, _, z⟩ := q; exact z.elim
    | ret u => obtain ⟨_, _, _, _, _, z⟩ := q; exact z.elim
  refine wpAny_Try_except (wpAny_mono ((hb (eAs X c i ts D) (X.pn ++ pins) _ (fun u s' xx => ?_) PassesOwn.looking).run [] s σ H D (I.toTry _) h) (thru _) (fun e s1 he => he))
  obtain ⟨a, B, sI, pins', σ1, H1, cls, d, rfl, J', nb, up, sky, na, os, ag, w⟩ := xx
  exact Sky.land Zc.steady (by rw [I.ok.frames, hs]) hf (by rw [← hs]; exact sky) fun h3 fl3 up3 => clause a B sI { s' with heap := h3 } σ1 H1 cls d (J'.ofTry I.ok) nb (up.trans up3) fl3 na os ag w
end
end Mf
set_option Elab.async false
set_option linter.all false
set_option maxRecDepth 100000
set_option maxHeartbeats 1000000
namespace Mf
open PySem L2

mutual
def D.py : D → PyData
  | .non => .none | .bl b => .bool b | .int i => .int i | .str x => .str x
  | .tup ds => .tuple (pys ds) | .lst ds => .list (pys ds) | .dct _ => .none | .adr _ => .none | .scr _ => .none | .exn _ => .none
def pys : List D → List PyData
  | [] => []
  | d :: ds => d.py :: pys ds
end
def okS (x : Str) : Bool := x.cps.all (· < 0x110000)
mutual
def D.sh : Nat → D → Bool
  | _, .non => true | _, .bl _ => true | _, .int _ => true | _, .str x => okS x
  | n + 1, .tup ds => shs n ds | n + 1, .lst ds => shs n ds | _, _ => false
def shs : Nat → List D → Bool
  | _, [] => true
  | n, d :: ds => d.sh n && shs n ds
end
mutual
def deq : D → D → Bool
  | .non, .non => true
  | .bl a, .bl b => a == b
  | .bl a, .int j => (if a then 1 else 0) == j
  | .int i, .bl b => i == (if b then 1 else 0)
  | .int i, .int j => i == j
  | .str x, .str y => x == y
  | .lst xs, .lst ys => deqs xs ys
  | .tup xs, .tup ys => deqs xs ys
  | _, _ => false
def deqs : List D → List D → Bool
  | [], [] => true
  | x :: xs, y :: ys => deq x y && deqs xs ys
  | _, _ => false
end
def flatD : D → Bool
  | .non => true | .bl _ => true | .int _ => true | .str _ => true | _ => false

inductive Res (S α : Type) where
  | ok (a : α) (s : S) | ex (x : Str) (s : S) | er
def Res.bind {S α β : Type} : Res S α → (α → S → Res S β) → Res S β
  | .ok a s, f => f a s
  | .ex x s, _ => .ex x s
  | .er, _ => .er
def liftO {S α : Type} (s : S) : Option α → Res S α
  | some a => .ok a s
  | none => .er
abbrev Sem (S : Type) := List D → S → Res S D

inductive Bop where | add | sub | mul | fdv | mod
inductive Cop where | eq | ne | lt | le | gt | ge | isin | notin | is | isnot
inductive B1 where | len | abs | int | tuple | list | all | any | max | dict | sorted
inductive M1 where | sindex | lindex | lcount | sjoin | sfind
inductive Ty where | int | bool | tuple | str | list
inductive Tg where | nm (i : Nat) | nil | cons (t r : Tg)
mutual
inductive CE (S : Type) : Type where
  | var (i : Nat) | con (d : D) | glb (x : Str) (d : D)
  | tup (es : CA S) | lst (es : CA S)
  | bin (o : Bop) (a b : CE S) | neg (a : CE S) | not (a : CE S)
  | cmp (o : Cop) (a b : CE S) | chn (o o' : Cop) (a b c : CE S)
  | and (a b : CE S) | or (a b : CE S) | one (a : CE S) | ife (t a b : CE S)
  | ix (a i : CE S) | slL (a lo : CE S) | slH (a hi : CE S) | slB (a lo hi : CE S)
  | call (x : Str) (n : Nat) (g : Sem S) (es : CA S)
  | b1 (f : B1) (e : CE S) | m1 (f : M1) (a b : CE S) | isi (e : CE S) (t : Ty)
  | lc (it : CI S) (tg : Tg) (ifs : CA S) (elt : CE S) (vs : List Nat)
  | sset (e : CE S) | rev (e : CE S) | lrng (e : CE S) | isx (e : CE S) (y : Option Str)
  | lc2 (it : CI S) (tg : Tg) (it1 : CI S) (tg1 : Tg) (elt : CE S) (vs vs1 : List Nat)
  | stx (f : Bool) (e : CE S) | fst (es : CA S) | dtb (x : Str) (t : List (Str × D)) (k : CE S) | dgt (x : Str) (t : List (Str × D)) (k d : CE S) | dlt (t : List (Str × Str)) (k : CE S) | lss (e : CE S)
  | isl (e : CE S) | fld (a : CE S) (f : Str) (g : Sem S) | mcl (a : CE S) (x : Str) (n : Nat) (ck g : Sem S) (es : CA S)
inductive CA (S : Type) : Type where
  | nil | cons (e : CE S) (es : CA S)
inductive CI (S : Type) : Type where
  | seq (e : CE S) | rng (e : CE S) | zip (a b : CE S) | enm (e : CE S)
end

def mulOk (i j : Int) : Bool := decide (i.natAbs.log2 + j.natAbs.log2 < 1000000)
def divOk (j : Int) : Bool := decide (j ≠ 0) && decide (j.natAbs.log2 < 9000)
def lenOk (n : Nat) : Bool := decide (n ≤ 1000000)
def binD : Bop → D → D → Option (K3 × D)
  | .add, .int i, .int j => some (.v, .int (i + j))
  | .add, .tup xs, .tup ys => if lenOk (xs.length + ys.length) then some (.v, .tup (xs ++ ys)) else none
  | .add, .lst xs, .lst ys => if lenOk (xs.length + ys.length) then some (.t, .lst (xs ++ ys)) else none
  | .add, .str x, .str y => if lenOk (x.length + y.length) then some (.v, .str (x ++ y)) else none
  | .sub, .int i, .int j => some (.v, .int (i - j))
  | .mul, .int i, .int j => if mulOk i j then some (.v, .int (i * j)) else none
  | .mul, .tup xs, .int k => if decide (2 ≤ k) && decide (k ≤ 1000) && decide (xs.length ≤ 1000) && !xs.isEmpty then some (.v, .tup (List.replicate k.toNat xs).flatten) else none
  | .mul, .lst xs, .int k => if decide (0 ≤ k) && decide (k ≤ 1000) && decide (xs.length ≤ 1000) then some (.t, .lst (List.replicate k.toNat xs).flatten) else none
  | .fdv, .int i, .int j => if divOk j then some (.v, .int (i.fdiv j)) else none
  | .mod, .int i, .int j => if decide (j ≠ 0) then some (.v, .int (i.fmod j)) else none
  | _, _, _ => none
def eqD (x y : D) : Option Bool := if x.sh 60 && y.sh 60 then some (deq x y) else none
def lookD (x : Str) : List (Str × D) → Option D
  | [] => none
  | (y, d) :: r => if y = x then some d else lookD x r
def inD : D → D → Option Bool
  | x, .tup ds => if (flatD x && ds.all flatD) || (x.sh 60 && shs 59 ds) then some (ds.any fun y => deq y x) else none
  | x, .lst ds => if (flatD x && ds.all flatD) || (x.sh 60 && shs 59 ds) then some (ds.any fun y => deq y x) else none
  | .str x, .str z => some (!(Builtin.Str.occurrences z x 0 z.length 1).isEmpty)
  | .str x, .dct es => some (lookD x es).isSome
  | _, _ => none
def isD : D → D → Option Bool
  | .non, .non => some true
  | .bl a, .bl b => some (decide (a = b))
  | _, .non => some false
  | _, _ => none
def cmpD : Cop → D → D → Option Bool
  | .eq, x, y => eqD x y
  | .ne, x, y => (eqD x y).map (!·)
  | .lt, .int i, .int j => some (decide (i < j))
  | .lt, .str x, .str y => some (decide (x.cps.toList < y.cps.toList))
  | .le, .int i, .int j => some (decide (i ≤ j))
  | .gt, .int i, .int j => some (decide (j < i))
  | .ge, .int i, .int j => some (decide (j ≤ i))
  | .isin, x, y => inD x y
  | .notin, x, y => (inD x y).map (!·)
  | .is, x, y => isD x y
  | .isnot, x, y => (isD x y).map (!·)
  | _, _, _ => none
def ixD : D → D → Option D
  | .tup ds, .int i => atI ds i
  | .lst ds, .int i => atI ds i
  | .str x, .int i => if lenOk x.length then (atI x.cps.toList i).map fun c => .str ⟨#[c]⟩ else none
  | .dct es, .str x => lookD x es
  | _, _ => none
def slD (d : D) (lo hi : Option Int) : Option (K3 × D) :=
  match d with
  | .tup ds => some (.v, .tup ((ds.drop (HT.sIx ds.length 0 lo)).take (HT.sIx ds.length ds.length hi - HT.sIx ds.length 0 lo)))
  | .lst ds => some (.t, .lst ((ds.drop (HT.sIx ds.length 0 lo)).take (HT.sIx ds.length ds.length hi - HT.sIx ds.length 0 lo)))
  | .str x => if lenOk x.length then some (.v, .str (cutS x lo hi)) else none
  | _ => none
def boolsD : List D → Option (List Bool)
  | [] => some []
  | .bl b :: r => (boolsD r).map (b :: ·)
  | _ => none
def intsD : List D → Option (List Int)
  | [] => some []
  | .int b :: r => (intsD r).map (b :: ·)
  | _ => none
def maxL : List Int → Int → Int
  | [], m => m
  | x :: r, m => maxL r (if m < x then x else m)
def putD (es : List (Str × D)) (k : Str) (v : D) : List (Str × D) :=
  if (es.any fun kv => decide (kv.1 = k)) = true then es.map (fun kv => if kv.1 = k then (kv.1, v) else kv) else es ++ [(k, v)]
def pairsD : List D → Option (List (Str × D))
  | [] => some []
  | .tup [.str k, v] :: r => (pairsD r).map ((k, v) :: ·)
  | _ => none
def dictD (kvs : List (Str × D)) : List (Str × D) := kvs.foldl (fun acc kv => putD acc kv.1 kv.2) []
def leD (x y : D) : Bool := !PySem.W.dataLt y.py x.py
def insD (x : D) : List D → List D
  | [] => [x]
  | y :: r => if leD x y then x :: y :: r else y :: insD x r
def sortD : List D → List D
  | [] => []
  | x :: r => insD x (sortD r)
def tup1 : D → Bool
  | .tup (_ :: _) => true
  | _ => false
def notTup : D → Bool
  | .tup _ => false
  | .non => false
  | _ => true
def sortOk (ds : List D) : Bool := shs 59 ds && (ds.all fun x => ds.all fun y => PySem.W.alike x.py y.py) && (ds.all tup1 || ds.all notTup)
def b1D : B1 → D → Option (K3 × D)
  | .len, .lst ds => some (.v, .int ds.length)
  | .len, .tup ds => some (.v, .int ds.length)
  | .len, .str x => if lenOk x.length then some (.v, .int x.length) else none
  | .abs, .int i => some (.v, .int (if i < 0 then -i else i))
  | .int, .int i => some (.v, .int i)
  | .int, .bl b => some (.v, .int (if b then 1 else 0))
  | .tuple, .lst ds => some (.v, .tup ds)
  | .tuple, .tup ds => some (.v, .tup ds)
  | .list, .lst ds => some (.t, .lst ds)
  | .list, .tup ds => some (.t, .lst ds)
  | .all, .lst ds => (boolsD ds).map fun bs => (.v, .bl (bs.all id))
  | .any, .lst ds => (boolsD ds).map fun bs => (.v, .bl (bs.any id))
  | .dict, .lst ds => (pairsD ds).map fun kvs => (.t, .dct (dictD kvs))
  | .dict, .tup ds => (pairsD ds).map fun kvs => (.t, .dct (dictD kvs))
  | .sorted, .lst ds => if sortOk ds then some (.t, .lst (sortD ds)) else none
  | .sorted, .tup ds => if sortOk ds then some (.t, .lst (sortD ds)) else none
  | .max, .lst ds => match intsD ds with | some (m :: r) => some (.v, .int (maxL r m)) | _ => none
  | _, _ => none
def rcvD : M1 → D → Bool
  | .sindex, .str _ => true
  | .lindex, .lst _ => true
  | .lcount, .lst _ => true
  | .sjoin, .str _ => true
  | .sfind, .str _ => true
  | _, _ => false
def strsD : List D → Option (List Str)
  | [] => some []
  | .str x :: ds => (strsD ds).map (x :: ·)
  | _ => none
def m1D : M1 → D → D → Option (K3 × D)
  | .sindex, .str a, .str b => match Builtin.Str.occurrences a b 0 a.length 1 with | i :: _ => some (.v, .int (i : Nat)) | [] => none
  | .lindex, .lst ds, y => if y.sh 60 && shs 59 ds then (ds.findIdx? fun z => deq z y).map fun j => (.v, .int (j : Nat)) else none
  | .lcount, .lst ds, y => if y.sh 60 && shs 59 ds then some (.v, .int (ds.countP fun z => deq z y : Nat)) else none
  | .sjoin, .str a, .lst ds => (strsD ds).bind fun ys => if decide ((ys.map (·.length)).sum + ys.length * a.length ≤ 1000000) then some (.v, .str (Txt.join a ys)) else none
  | .sfind, .str a, .str b => some (.v, .int (Txt.find a b))
  | _, _, _ => none
def excNames : List Str := ["InvalidFormula", "InvalidStatement", "InvalidStatements", "InvalidTable", "InvalidName", "InvalidMeasure", "InvalidFactors", "InvalidNumbers", "InvalidText", "Unknown", "Clash", "NoCompletion", "NotWhole", "NoValue", "TooMany", "AlreadyKnown", "NothingToUndo"]
def isxD : Option Str → D → Option Bool
  | none, .exn x => if excNames.contains x = true then some true else none
  | some y, .exn x => if (excNames.contains x && excNames.contains y) = true then some (x == y) else none
  | _, _ => none
def d_EXC : D := .exn ""
def isiD : Ty → D → Option Bool
  | _, .dct _ => none
  | _, .adr _ => none
  | _, .scr _ => none
  | _, .exn _ => none
  | .int, d => some (match d with | .int _ => true | .bl _ => true | _ => false)
  | .bool, d => some (match d with | .bl _ => true | _ => false)
  | .tuple, d => some (match d with | .tup _ => true | _ => false)
  | .str, d => some (match d with | .str _ => true | _ => false)
  | .list, d => some (match d with | .lst _ => true | _ => false)

def keyD : D → Option Key
  | .int i => some (.inl i)
  | .str x => some (.inr x)
  | _ => none
def keysD : List D → Option (List Key)
  | [] => some []
  | d :: ds => match keyD d, keysD ds with
    | some k, some ks => some (k :: ks)
    | _, _ => none
def dK : Key → D
  | .inl i => .int i
  | .inr x => .str x
def dedK : List Key → List Key
  | [] => []
  | k :: ks => if (ks.any fun x => decide (x = k)) = true then dedK ks else k :: dedK ks
def revD : D → Option D
  | .tup ds => some (.tup ds.reverse)
  | _ => none
def ssetD : D → Option (K3 × D)
  | .lst ds => match keysD ds with
    | some ks => if (decide (ks.length ≤ 1000) && (ks.all (fun k => k.isLeft == true) || ks.all fun k => k.isLeft == false)) = true then some (.t, .lst (sortD ((dedK ks).map dK))) else none
    | none => none
  | _ => none

def asgL : Tg → List D → List SV → Option (List SV)
  | .nm _, _, _ => none
  | .nil, [], ρ => some ρ
  | .nil, _ :: _, _ => none
  | .cons _ _, [], _ => none
  | .cons t r, d :: ds, ρ =>
    match t with
    | .nm i => if i < ρ.length then asgL r ds (ρ.set i (.va d)) else none
    | .nil => none
    | .cons t' r' => match d with | .tup es => (asgL (.cons t' r') es ρ).bind (asgL r ds) | _ => none
def asgT (t : Tg) (d : D) (ρ : List SV) : Option (List SV) := asgL (.cons t .nil) [d] ρ
def wipeR (ρ : List SV) : List Nat → List SV
  | [] => ρ
  | v :: vs => (wipeR ρ vs).set v .no

def strD : D → Option D
  | .str y => if lenOk y.length then some (.str y) else none
  | .int i => if decide (i.natAbs.log2 < 1000) then some (.str (toString i)) else none
  | _ => none
def catS {S α : Type} (x : K3 × D) (acc : Str) (f : Str → Res S α) : Res S α := match x.2 with
  | .str y => if lenOk (acc ++ y).length then f (acc ++ y) else .er
  | _ => .er
def tabD (t : List (Str × D)) : D → Option D
  | .str k => lookD k t
  | _ => none
def onS {S α : Type} (x : K3 × D) (f : Str → Res S α) : Res S α := match x.2 with
  | .str k => f k
  | _ => .er
def tabS (t : List (Str × Str)) : List (Str × D) := t.map fun p => (p.1, .str p.2)
def lssD : D → Option (K3 × D)
  | .str z => if lenOk z.length then some (.t, .lst (z.cps.toList.map fun c => .str ⟨#[c]⟩)) else none
  | _ => none
def enL : Nat → List Nat → List D
  | _, [] => []
  | i, c :: cs => .tup [.int (i : Int), .str ⟨#[c]⟩] :: enL (i + 1) cs
def enmD : D → Option (List D)
  | .str z => if lenOk z.length then some (enL 0 z.cps.toList) else none
  | _ => none

def hide1 : SV → SV
  | .ow _ => .no
  | x => x
def hideR (ρ : List SV) : List SV := ρ.map hide1

def dat {S : Type} : K3 × D → S → Res S D
  | (.o, _), _ => .er
  | (_, d), s => .ok d s
def noEx {S α : Type} : Res S α → Res S α
  | .ok a s => .ok a s
  | _ => .er
def stk {S : Type} : Bool → K3 × D → S → Res S (K3 × D)
  | true, (.o, _), _ => .er
  | _, x, s => .ok x s
def walkR {S : Type} (f : D → S → Res S (Option D)) : List D → S → Res S (List D)
  | [], s => .ok [] s
  | d :: ds, s => (f d s).bind fun o s1 => (walkR f ds s1).bind fun r s2 => .ok (o.toList ++ r) s2
def walkL {S : Type} (f : D → S → Res S (List D)) : List D → S → Res S (List D)
  | [], s => .ok [] s
  | d :: ds, s => (f d s).bind fun o s1 => (walkL f ds s1).bind fun r s2 => .ok (o ++ r) s2
def rngD (n : Nat) : List D := (List.range n).map fun (i : Nat) => D.int (i : Int)
def lrngD : D → Option (K3 × D)
  | .int n => if (decide (0 ≤ n) && decide (n ≤ 1000)) = true then some (.t, .lst (rngD n.toNat)) else none
  | _ => none
def zipD : List D → List D → List D
  | x :: xs, y :: ys => .tup [x, y] :: zipD xs ys
  | _, _ => []
def itemsD : D → Option (List D)
  | .lst ds => some ds
  | .tup ds => some ds
  | .str z => some (z.cps.toList.map fun c => .str ⟨#[c]⟩)
  | _ => none
def seqD : D → Option (List D)
  | .lst ds => some ds
  | .tup ds => some ds
  | .str z => if z.cps.all (· < 128) = true then some (z.cps.toList.map fun c => .str ⟨#[c]⟩) else none
  | _ => none
def zipK (x y : D) : Option (List D) := match seqD x, seqD y with
  | some xs, some ys => some (zipD xs ys)
  | _, _ => none
def tru {S : Type} : K3 × D → S → Res S Bool
  | (_, .bl b), s => .ok b s
  | _, _ => .er
def intOf {S : Type} : K3 × D → S → Res S Int
  | (_, .int b), s => .ok b s
  | _, _ => .er
def kd {S : Type} (s : S) (d : Option D) : Res S (K3 × D) := liftO s (d.map fun d => (.v, d))
def onV {S α : Type} : K3 × D → S → (D → S → Res S α) → Res S α
  | (.v, d), s, f => f d s
  | _, _, _ => .er
def quiet {S α : Type} (s : S) (f : D → Res S α) : Res S D → Res S α
  | .ok d _ => f d
  | _ => .er
mutual
def ev {S : Type} : CE S → List SV → S → Res S (K3 × D)
  | .var i, ρ, s => match ρ[i]? with
    | some (.va d) => .ok (.v, d) s
    | some (.ow d) => .ok (.o, d) s
    | _ => .er
  | .con d, _, s => .ok (.v, d) s
  | .glb _ d, _, s => .ok (.v, d) s
  | .tup es, ρ, s => (evA es ρ s).bind fun ds s => if lenOk ds.length then .ok (.v, .tup ds) s else .er
  | .lst es, ρ, s => (evA es ρ s).bind fun ds s => if lenOk ds.length then .ok (.t, .lst ds) s else .er
  | .bin o a b, ρ, s => (ev a ρ s).bind fun x s => (ev b ρ s).bind fun y s => liftO s (binD o x.2 y.2)
  | .neg a, ρ, s => (ev a ρ s).bind fun x s => (intOf x s).bind fun i s => .ok (.v, .int (-i)) s
  | .not a, ρ, s => (ev a ρ s).bind fun x s => (tru x s).bind fun b s => .ok (.v, .bl (!b)) s
  | .cmp o a b, ρ, s => (ev a ρ s).bind fun x s => (ev b ρ s).bind fun y s => kd s ((cmpD o x.2 y.2).map .bl)
  | .chn o o' a b c, ρ, s => (ev a ρ s).bind fun x s => (ev b ρ s).bind fun y s => (liftO s (cmpD o x.2 y.2)).bind fun k s =>
      if k then (ev c ρ s).bind fun z s => kd s ((cmpD o' y.2 z.2).map .bl) else .ok (.v, .bl false) s
  | .and a b, ρ, s => (ev a ρ s).bind fun x s => (tru x s).bind fun k s => if k then ev b ρ s else .ok (.v, .bl false) s
  | .or a b, ρ, s => (ev a ρ s).bind fun x s => (tru x s).bind fun k s => if k then .ok (.v, .bl true) s else ev b ρ s
  | .one a, ρ, s => ev a ρ s
  | .ife t a b, ρ, s => (ev t ρ s).bind fun x s => (tru x s).bind fun k s => if k then ev a ρ s else ev b ρ s
  | .ix a i, ρ, s => (ev a ρ s).bind fun x s => (ev i ρ s).bind fun y s => kd s (ixD x.2 y.2)
  | .slL a lo, ρ, s => (ev a ρ s).bind fun x s => (ev lo ρ s).bind fun y s => (intOf y s).bind fun i s => liftO s (slD x.2 (some i) none)
  | .slH a hi, ρ, s => (ev a ρ s).bind fun x s => (ev hi ρ s).bind fun y s => (intOf y s).bind fun i s => liftO s (slD x.2 none (some i))
  | .slB a lo hi, ρ, s => (ev a ρ s).bind fun x s => (ev lo ρ s).bind fun y s => (intOf y s).bind fun i s => (ev hi ρ s).bind fun z s => (intOf z s).bind fun j s => liftO s (slD x.2 (some i) (some j))
  | .call _ n g es, ρ, s => (evA es ρ s).bind fun ds s => if ds.length = n then (g ds s).bind fun d s => .ok (.v, d) s else .er
  | .b1 f e, ρ, s => (ev e ρ s).bind fun x s => liftO s (b1D f x.2)
  | .m1 f a b, ρ, s => (ev a ρ s).bind fun x s => if rcvD f x.2 then (ev b ρ s).bind fun y s => liftO s (m1D f x.2 y.2) else .er
  | .isi e t, ρ, s => (ev e ρ s).bind fun x s => kd s ((isiD t x.2).map .bl)
  | .lc it tg ifs elt vs, ρ, s => (evI false it ρ s).bind fun ds s => if !lenOk ds.length then .er else (walkR (fun d s => match asgT tg d (wipeR ρ vs) with
      | none => .er
      | some ρ' => (noEx (evT ifs ρ' s)).bind fun k s => if k then (noEx (ev elt ρ' s)).bind fun y s => (dat y s).bind fun e s => .ok (some e) s else .ok none s) ds s).bind fun r s => .ok (.t, .lst r) s
  | .rev e, ρ, s => (ev e ρ s).bind fun x s => kd s (revD x.2)
  | .sset e, ρ, s => (ev e ρ s).bind fun x s => liftO s (ssetD x.2)
  | .lrng e, ρ, s => (ev e ρ s).bind fun x s => liftO s (lrngD x.2)
  | .isx e y, ρ, s => (ev e ρ s).bind fun x s => kd s ((isxD y x.2).map .bl)
  | .lc2 it tg it1 tg1 elt vs vs1, ρ, s => (evI false it ρ s).bind fun ds s => if !lenOk ds.length then .er else (walkL (fun d s => match asgT tg d (wipeR (hideR ρ) vs) with
      | none => .er
      | some ρ' => (noEx (evI true it1 (hideR ρ') s)).bind fun ds1 s => walkR (fun d1 s => match asgT tg1 d1 (wipeR (hideR ρ') vs1) with
        | none => .er
        | some ρ2 => (noEx (ev elt ρ2 s)).bind fun y s => (dat y s).bind fun e s => .ok (some e) s) ds1 s) ds s).bind fun r s => if lenOk r.length then .ok (.t, .lst r) s else .er
  | .stx _ e, ρ, s => (ev e ρ s).bind fun x s => kd s (strD x.2)
  | .fst es, ρ, s => evJ es Str.empty ρ s
  | .dtb _ t k, ρ, s => (ev k ρ s).bind fun x s => kd s (tabD t x.2)
  | .dgt _ t k d, ρ, s => (ev k ρ s).bind fun x s => onS x fun k => (ev d ρ s).bind fun y s => onV y s fun d s => .ok (.v, (lookD k t).getD d) s
  | .dlt t k, ρ, s => (ev k ρ s).bind fun x s => kd s (tabD (dictD (tabS t)) x.2)
  | .lss e, ρ, s => (ev e ρ s).bind fun x s => liftO s (lssD x.2)
  | .isl e, ρ, s => (ev e ρ s).bind fun x s => kd s ((isiD .list x.2).map .bl)
  | .fld a _ g, ρ, s => (ev a ρ s).bind fun x s => onV x s fun d s => quiet s (fun d' => .ok (.v, d') s) (g [d] s)
  | .mcl a _ n ck g es, ρ, s => (ev a ρ s).bind fun x s => onV x s fun d s => quiet s (fun _ => (evA es ρ s).bind fun ds s => if ds.length + 1 = n then (g (d :: ds) s).bind fun d s => .ok (.v, d) s else .er) (ck [d] s)
def evA {S : Type} : CA S → List SV → S → Res S (List D)
  | .nil, _, s => .ok [] s
  | .cons e es, ρ, s => (ev e ρ s).bind fun x s => (dat x s).bind fun d s => (evA es ρ s).bind fun ds s => .ok (d :: ds) s
def evJ {S : Type} : CA S → Str → List SV → S → Res S (K3 × D)
  | .nil, acc, _, s => .ok (.v, .str acc) s
  | .cons e es, acc, ρ, s => (ev e ρ s).bind fun x s => catS x acc fun acc => evJ es acc ρ s
def evT {S : Type} : CA S → List SV → S → Res S Bool
  | .nil, _, s => .ok true s
  | .cons t _, ρ, s => (ev t ρ s).bind tru
def evI {S : Type} (st : Bool) : CI S → List SV → S → Res S (List D)
  | .seq e, ρ, s => (ev e ρ s).bind fun x s => (stk st x s).bind fun x s => liftO s (itemsD x.2)
  | .rng e, ρ, s => (ev e ρ s).bind fun x s => (intOf x s).bind fun n s => if decide (-1000000 ≤ n) && decide (n ≤ 1000000) then .ok (rngD n.toNat) s else .er
  | .zip a b, ρ, s => (ev a ρ s).bind fun x s => (stk st x s).bind fun x s => (ev b ρ s).bind fun y s => (stk st y s).bind fun y s => liftO s (zipK x.2 y.2)
  | .enm e, ρ, s => (ev e ρ s).bind fun x s => liftO s (enmD x.2)
end
end Mf
set_option Elab.async false
set_option linter.all false
set_option maxRecDepth 100000
set_option maxHeartbeats 1000000
namespace Mf
open PySem L2

section
variable {Y : Sys} {c : Cf Y} {K : PySem.W.Frag} {Hs : Hp} {k : K3} {v : V}
theorem Is.int {i : Int} (h : Is K Hs c k v (.int i)) : v = .int i := by
  cases k with
  | v => cases h; rfl
  | t => obtain ⟨p, _, o, _⟩ := h; exact o.1.elim
  | o => obtain ⟨p, _, o⟩ := h; exact o.1.elim
theorem Is.bl {b : Bool} (h : Is K Hs c k v (.bl b)) : v = .bl b := by
  cases k with
  | v => cases h; rfl
  | t => obtain ⟨p, _, o, _⟩ := h; exact o.1.elim
  | o => obtain ⟨p, _, o⟩ := h; exact o.1.elim
theorem Is.str {x : Str} (h : Is K Hs c k v (.str x)) : v = .str x := by
  cases k with
  | v => cases h; rfl
  | t => obtain ⟨p, _, o, _⟩ := h; exact o.1.elim
  | o => obtain ⟨p, _, o⟩ := h; exact o.1.elim
theorem Is.non (h : Is K Hs c k v .non) : v = .non := by
  cases k with
  | v => cases h; rfl
  | t => obtain ⟨p, _, o, _⟩ := h; exact o.1.elim
  | o => obtain ⟨p, _, o⟩ := h; exact o.1.elim
theorem Is.tup {ds : List D} (h : Is K Hs c k v (.tup ds)) (ok : Ok c) : ∃ p vs, v = .ref p ∧ SqT K c.H p vs ∧ (SqT K c.F p vs ∧ Pt K c.F p) ∧ Reps K c.F vs ds := by
  cases k with
  | v => cases h with | tup q t r => exact ⟨_, _, rfl, sqT_sub ok.sub q, ⟨q, t⟩, r⟩
  | t => obtain ⟨p, _, o, _⟩ := h; exact o.1.elim
  | o => obtain ⟨p, _, o⟩ := h; exact o.1.elim
theorem Is.lst {ds : List D} (h : Is K Hs c k v (.lst ds)) (ok : Ok c) : ∃ p vs, v = .ref p ∧ c.H p = some (.lst vs) ∧ Reps K c.F vs ds := by
  cases k with
  | v => cases h with | lst q r => exact ⟨_, _, rfl, ok.sub _ _ q, r⟩
  | t => obtain ⟨p, e, o, _⟩ := h; obtain ⟨vs, q, r⟩ := o.1; exact ⟨p, vs, e, q, r⟩
  | o => obtain ⟨p, e, o⟩ := h; obtain ⟨vs, q, r⟩ := o.1; exact ⟨p, vs, e, q, r⟩
theorem Is.dct {ds : List (Str × D)} (h : Is K Hs c k v (.dct ds)) (ok : Ok c) : ∃ p kvs, v = .ref p ∧ c.H p = some (.dK kvs) ∧ RepK K c.F kvs ds := by
  cases k with
  | v => cases h with | dct q r => exact ⟨_, _, rfl, ok.sub _ _ q, r⟩
  | t => obtain ⟨p, e, o, _⟩ := h; obtain ⟨vs, q, r⟩ := o.1; exact ⟨p, vs, e, q, r⟩
  | o => obtain ⟨p, e, o⟩ := h; obtain ⟨vs, q, r⟩ := o.1; exact ⟨p, vs, e, q, r⟩
end

mutual
theorem py_dp {K : PySem.W.Frag} {F H : Hp} (e : Sub F H) : ∀ {n : Nat} {v : V} {d : D}, Rep K F v d → d.sh n = true → Dp K H v d.py
  | _, _, _, .non, _ => .non
  | _, _, _, .bl b, _ => .bl b
  | _, _, _, .int i, _ => .int i
  | _, _, _, .str x, _ => .str x
  | n, _, _, .adr a, h => by cases n <;> cases h
  | n, _, _, .scr _, h => by cases n <;> cases h
  | n, _, _, .dct _ _, h => by cases n <;> cases h
  | n, _, _, .exn _ _, h => by cases n <;> cases h
  | 0, _, _, .tup _ _ _, h => by cases h
  | 0, _, _, .lst _ _, h => by cases h
  | n + 1, _, _, .tup q _ r, h => .tup (sqT_sub e q) (pys_dp e r h)
  | n + 1, _, _, .lst q r, h => .lst (.inl (.inl (e _ _ q))) (pys_dp e r h)
theorem pys_dp {K : PySem.W.Frag} {F H : Hp} (e : Sub F H) : ∀ {n : Nat} {vs : List V} {ds : List D}, Reps K F vs ds → shs n ds = true → DpAll K H vs (pys ds)
  | _, _, _, .nil, _ => .nil
  | _, _, _, .cons h r, q => by
    have q := Bool.and_eq_true_iff.mp q
    exact .cons (py_dp e h q.1) (pys_dp e r q.2)
end
mutual
theorem py_sh : ∀ (n : Nat) (d : D), d.sh n = true → d.py.canLay0 = true ∧ d.py.depth ≤ n
  | _, .non, _ => ⟨rfl, Nat.zero_le _⟩
  | _, .bl _, _ => ⟨rfl, Nat.zero_le _⟩
  | _, .int _, _ => ⟨rfl, Nat.zero_le _⟩
  | n, .str x, h => ⟨by cases n <;> exact h, Nat.zero_le _⟩
  | n, .adr a, h => by cases n <;> cases h
  | n, .scr a, h => by cases n <;> cases h
  | n, .dct _, h => by cases n <;> cases h
  | n, .exn _, h => by cases n <;> cases h
  | 0, .tup _, h => by cases h
  | 0, .lst _, h => by cases h
  | n + 1, .tup ds, h => ⟨(pys_sh n ds h).1, Nat.succ_le_succ (pys_sh n ds h).2⟩
  | n + 1, .lst ds, h => ⟨(pys_sh n ds h).1, Nat.succ_le_succ (pys_sh n ds h).2⟩
theorem pys_sh : ∀ (n : Nat) (ds : List D), shs n ds = true → PyData.canLayAll0 (pys ds) = true ∧ PyData.depthAll (pys ds) ≤ n
  | _, [], _ => ⟨rfl, Nat.zero_le _⟩
  | n, d :: ds, h => by
    have q := Bool.and_eq_true_iff.mp h
    have a := py_sh n d q.1
    have b := pys_sh n ds q.2
    exact ⟨Bool.and_eq_true_iff.mpr ⟨a.1, b.1⟩, Nat.max_le.mpr ⟨a.2, b.2⟩⟩
end
theorem shaped_of {d : D} (h : d.sh 60 = true) : SeqAt.shaped d.py = true :=
  Bool.and_eq_true_iff.mpr ⟨(py_sh 60 d h).1, decide_eq_true (Nat.le_trans (py_sh 60 d h).2 (by decide))⟩
theorem sh_dct {n : Nat} {x : List (Str × D)} : (D.dct x).sh n = false := by cases n <;> rfl
theorem sh_exn {n : Nat} {x : Str} : (D.exn x).sh n = false := by cases n <;> rfl
theorem sh_scr {n : Nat} {x : List Int} : (D.scr x).sh n = false := by cases n <;> rfl
theorem sh_adr {n : Nat} {x : Addr} : (D.adr x).sh n = false := by cases n <;> rfl
mutual
theorem py_eqv : ∀ (n m : Nat) (d e : D), d.sh n = true → e.sh m = true → PyData.eqv d.py e.py = deq d e
  | n, m, .dct _, e, h, _ => by rw [sh_dct] at h; cases h
  | n, m, .adr _, e, h, _ => by rw [sh_adr] at h; cases h
  | n, m, .scr _, e, h, _ => by rw [sh_scr] at h; cases h
  | n, m, .exn _, e, h, _ => by rw [sh_exn] at h; cases h
  | n, m, d, .dct _, _, h => by rw [sh_dct] at h; cases h
  | n, m, d, .adr _, _, h => by rw [sh_adr] at h; cases h
  | n, m, d, .scr _, _, h => by rw [sh_scr] at h; cases h
  | n, m, d, .exn _, _, h => by rw [sh_exn] at h; cases h
  | n + 1, m + 1, .tup xs, .tup ys, h, h' => pys_eqv n m xs ys h h'
  | n + 1, m + 1, .lst xs, .lst ys, h, h' => pys_eqv n m xs ys h h'
  | 0, _, .tup xs, .tup ys, h, h' => by cases h
  | 0, _, .lst xs, .lst ys, h, h' => by cases h
  | _ + 1, 0, .tup xs, .tup ys, h, h' => by cases h'
  | _ + 1, 0, .lst xs, .lst ys, h, h' => by cases h'
  | _, _, .non, .non, _, _ => rfl
  | _, _, .non, .bl _, _, _ => rfl
  | _, _, .non, .int _, _, _ => rfl
  | _, _, .non, .str _, _, _ => rfl
  | _, _, .non, .tup _, _, _ => rfl
  | _, _, .non, .lst _, _, _ => rfl
  | _, _, .bl _, .non, _, _ => rfl
  | _, _, .bl _, .bl _, _, _ => rfl
  | _, _, .bl _, .int _, _, _ => rfl
  | _, _, .bl _, .str _, _, _ => rfl
  | _, _, .bl _, .tup _, _, _ => rfl
  | _, _, .bl _, .lst _, _, _ => rfl
  | _, _, .int _, .non, _, _ => rfl
  | _, _, .int _, .bl _, _, _ => rfl
  | _, _, .int _, .int _, _, _ => rfl
  | _, _, .int _, .str _, _, _ => rfl
  | _, _, .int _, .tup _, _, _ => rfl
  | _, _, .int _, .lst _, _, _ => rfl
  | _, _, .str _, .non, _, _ => rfl
  | _, _, .str _, .bl _, _, _ => rfl
  | _, _, .str _, .int _, _, _ => rfl
  | _, _, .str _, .str _, _, _ => rfl
  | _, _, .str _, .tup _, _, _ => rfl
  | _, _, .str _, .lst _, _, _ => rfl
  | _, _, .tup _, .non, _, _ => rfl
  | _, _, .tup _, .bl _, _, _ => rfl
  | _, _, .tup _, .int _, _, _ => rfl
  | _, _, .tup _, .str _, _, _ => rfl
  | _, _, .tup _, .lst _, _, _ => rfl
  | _, _, .lst _, .non, _, _ => rfl
  | _, _, .lst _, .bl _, _, _ => rfl
  | _, _, .lst _, .int _, _, _ => rfl
  | _, _, .lst _, .str _, _, _ => rfl
  | _, _, .lst _, .tup _, _, _ => rfl
theorem pys_eqv : ∀ (n m : Nat) (ds es : List D), shs n ds = true → shs m es = true → PyData.eqvAll (pys ds) (pys es) = deqs ds es
  | _, _, [], [], _, _ => rfl
  | _, _, [], _ :: _, _, _ => rfl
  | _, _, _ :: _, [], _, _ => rfl
  | n, m, d :: ds, e :: es, h, h' => by
    have q := Bool.and_eq_true_iff.mp h
    have q' := Bool.and_eq_true_iff.mp h'
    show (PyData.eqv d.py e.py && PyData.eqvAll (pys ds) (pys es)) = (deq d e && deqs ds es)
    rw [py_eqv n m d e q.1 q'.1, pys_eqv n m ds es q.2 q'.2]
end
theorem Is.dp {Y : Sys} {c : Cf Y} {K : PySem.W.Frag} {Hs : Hp} {k : K3} {v : V} {d : D} (h : Is K Hs c k v d) (ok : Ok c) (hs : d.sh 60 = true) : Dp K c.H v d.py := by
  cases k with
  | v => exact py_dp ok.sub h hs
  | t =>
    obtain ⟨p, rfl, o, _⟩ := h
    cases d with
    | lst ds => obtain ⟨vs, q, r⟩ := o.1; exact .lst (.inl (.inl q)) (pys_dp (n := 59) ok.sub r hs)
    | dct _ => rw [sh_dct] at hs; cases hs
    | _ => exact o.1.elim
  | o =>
    obtain ⟨p, rfl, o⟩ := h
    cases d with
    | lst ds => obtain ⟨vs, q, r⟩ := o.1; exact .lst (.inl (.inl q)) (pys_dp (n := 59) ok.sub r hs)
    | dct _ => rw [sh_dct] at hs; cases hs
    | _ => exact o.1.elim
end Mf
set_option Elab.async false
set_option linter.all false
set_option maxRecDepth 100000
set_option maxHeartbeats 1000000
namespace Mf
open PySem L2 PySem.Spec PyProof.Rows

section
variable {X : Cx}
def rRemD (K : PySem.W.Frag) : V → List V → Hp → VK → Prop := fun x xs H Q => ∃ (l : Addr) (vs : List V) (y : V) (d : PyData) (ds : List PyData) (j : Nat), x = V.ref l ∧ xs = [y] ∧ H l = some (.lst vs) ∧ DpAll K H vs ds ∧ Dp K H y d ∧
  SeqAt.shaped (.list ds) = true ∧ SeqAt.shaped d = true ∧ SeqAt.dataPlace ds d = some j ∧ Q .non (upd H l (.lst (vs.eraseIdx j)))
theorem vals_erase : ∀ {xs : List V} {us : List Value} (n : Nat), Vals xs us → Vals (xs.eraseIdx n) (us.eraseIdx n)
  | _, _, _, .nil => .nil
  | _, _, 0, .cons _ t => t
  | _, _, n + 1, .cons r t => .cons r (vals_erase n t)
theorem mt_removeD (hu : X.A.units + 65 < cLine) : MtM X "list.remove" (rRemD X.K) := by
  intro pins s σ H x xs v us Q I rx rxs h
  obtain ⟨l, vs, y, d, ds, j, rfl, rfl, hH, hl, hy, sl, sd, hj, q⟩ := h
  cases rx
  obtain ⟨u, rfl, ru⟩ := rxs.one
  obtain ⟨bs, r1⟩ := Dp.reads I d y u hy ru
  obtain ⟨z, its, n, r, hn, e⟩ := I.lstM hH
  obtain ⟨as, h4⟩ := Dp.readsAll I ds _ its hl r
  have hxs : PyData.canLayAll0 ds = true := SeqAt.canLay_of_shaped sl
  have hroom : X.A.units + 1 + min (PyData.depthAll ds) d.depth < cLine := room_in_shaped sd hu
  have hmap : its.map (SeqAt.readOf s.heap) = ds := SeqAt.readsAll_map ds its as hxs h4
  obtain ⟨g1, g2, g3⟩ := List.findIdx?_eq_some_iff_getElem.mp hj
  have hlen : its.length = ds.length := by rw [← hmap, List.length_map]
  have at_ : ∀ (m : Nat) (hm : m < its.toArray.size) (hd : m < ds.length), SeqAt.readOf s.heap its.toArray[m] = ds[m] := by
    intro m hm hd
    have e2 : (its.map (SeqAt.readOf s.heap))[m]? = ds[m]? := by rw [hmap]
    rw [List.getElem?_map, List.getElem?_eq_getElem (by simpa using hm), List.getElem?_eq_getElem hd] at e2
    simpa using e2
  refine call_meets PySem.F.slot_list_remove ⟨_, e, rfl⟩ PySem.F.entry_list_remove (PySem.F.args_list_remove_2 _ _)
    (SeqAt.list_removeAt l its.toArray n none #[] u (fun u => PyData.eqv (SeqAt.readOf s.heap u) d) j (by rw [List.size_toArray]; omega) ?_ ?_ (by rw [List.size_toArray]; omega)) ⟨e, SeqAt.items_eqAt (vs := its.toArray) (show ReadsAll s.heap its.toArray.toList ds as from h4) r1 hxs (SeqAt.canLay_of_shaped sd) hroom, ?_⟩
  · have hjs : j < its.toArray.size := by rw [List.size_toArray]; omega
    show PyData.eqv (SeqAt.readOf s.heap (its.toArray[j]'hjs)) d = true
    rw [at_ j hjs g1]
    exact g2
  · intro m hm hmj
    show PyData.eqv (SeqAt.readOf s.heap its.toArray[m]) d = false
    rw [at_ m hm (by omega)]
    have := g3 m hmj
    simpa using this
  · refine ⟨.non, _, I.lset (its' := its.eraseIdx j) (t' := s.toks) hH e ?_ (vals_erase j r) ?_, rfl, q⟩
    · show its.toArray.eraseIdxIfInBounds j = (its.eraseIdx j).toArray
      rw [List.eraseIdxIfInBounds_toArray]
    · have := List.length_eraseIdx_le vs j
      omega
def rInT (K : PySem.W.Frag) (neg : Bool) : R2 := fun x y H Q => ∃ d ds, Dp K H x d ∧ (Dp K H y (.list ds) ∨ Dp K H y (.tuple ds)) ∧ SeqAt.shaped d = true ∧ SeqAt.shaped (.list ds) = true ∧ Q (.bl (neg ^^ ds.any fun z => PyData.eqv z d)) H
theorem op_inT (hu : X.A.units + 65 < cLine) : OpR X (compareOp .In) (rInT X.K false) := by
  intro pins s σ H x y v u Q I rx ry h
  obtain ⟨d, ds, hd, he, sd, se, q⟩ := h
  obtain ⟨as, r1⟩ := Dp.reads I d x v hd rx
  rw [Bool.false_xor] at q
  rcases he with he | he
  · obtain ⟨bs, r2⟩ := Dp.reads I (.list ds) y u he ry
    exact SeqAt.in_list_reads r2 r1 (SeqAt.canLay_of_shaped se) (SeqAt.canLay_of_shaped sd) (room_in_shaped sd hu) ⟨.bl _, H, I, rfl, q⟩
  · obtain ⟨bs, r2⟩ := Dp.reads I (.tuple ds) y u he ry
    exact SeqAt.in_tuple_reads r2 r1 (SeqAt.canLay_of_shaped se) (SeqAt.canLay_of_shaped sd) (room_in_shaped sd hu) ⟨.bl _, H, I, rfl, q⟩
theorem op_notInT (hu : X.A.units + 65 < cLine) : OpR X (compareOp .NotIn) (rInT X.K true) := by
  intro pins s σ H x y v u Q I rx ry h
  obtain ⟨d, ds, hd, he, sd, se, q⟩ := h
  obtain ⟨as, r1⟩ := Dp.reads I d x v hd rx
  rw [Bool.true_xor] at q
  rcases he with he | he
  · obtain ⟨bs, r2⟩ := Dp.reads I (.list ds) y u he ry
    exact SeqAt.notIn_list_reads r2 r1 (SeqAt.canLay_of_shaped se) (SeqAt.canLay_of_shaped sd) (room_in_shaped sd hu) ⟨.bl _, H, I, rfl, q⟩
  · obtain ⟨bs, r2⟩ := Dp.reads I (.tuple ds) y u he ry
    exact SeqAt.notIn_tuple_reads r2 r1 (SeqAt.canLay_of_shaped se) (SeqAt.canLay_of_shaped sd) (room_in_shaped sd hu) ⟨.bl _, H, I, rfl, q⟩
def rCntD (K : PySem.W.Frag) : V → List V → Hp → VK → Prop := fun x xs H Q => ∃ (l : Addr) (vs : List V) (y : V) (d : PyData) (ds : List PyData), x = V.ref l ∧ xs = [y] ∧ SqL K H l vs ∧ DpAll K H vs ds ∧ Dp K H y d ∧
  SeqAt.shaped (.list ds) = true ∧ SeqAt.shaped d = true ∧ Q (.int (ds.countP fun z => PyData.eqv z d : Nat)) H
theorem mt_countD (hu : X.A.units + 65 < cLine) : MtR X "list.count" (rCntD X.K) := by
  intro pins s σ H x xs v us Q I rx rxs h
  obtain ⟨l, vs, y, d, ds, rfl, rfl, hs, hl, hy, sl, sd, q⟩ := h
  cases rx
  obtain ⟨u, rfl, ru⟩ := rxs.one
  obtain ⟨bs, r1⟩ := Dp.reads I d y u hy ru
  obtain ⟨its, rv, ⟨⟨cls, dd, data, sls⟩, n, ho, hc, hdn, hdt⟩, hlen⟩ := I.list hs
  simp only at hc hdt
  subst hc hdt
  obtain ⟨as, h4⟩ := Dp.readsAll I ds _ its hl rv
  have hxs : PyData.canLayAll0 ds = true := SeqAt.canLay_of_shaped sl
  have hroom : X.A.units + 1 + min (PyData.depthAll ds) d.depth < cLine := room_in_shaped sd hu
  have hmap : its.map (SeqAt.readOf s.heap) = ds := SeqAt.readsAll_map ds its as hxs h4
  refine call_meets PySem.F.slot_list_count ⟨_, ho, rfl⟩ PySem.F.entry_list_count (PySem.F.args_list_count_2 _ _)
    (SeqAt.list_countAt l its.toArray n dd sls u (fun u => PyData.eqv (SeqAt.readOf s.heap u) d)) ⟨ho, SeqAt.items_eqAt (vs := its.toArray) (show ReadsAll s.heap its.toArray.toList ds as from h4) r1 hxs (SeqAt.canLay_of_shaped sd) hroom, ?_⟩
  have ec : its.toArray.toList.countP (fun u => PyData.eqv (SeqAt.readOf s.heap u) d) = ds.countP fun z => PyData.eqv z d := by
    rw [← hmap, List.countP_map]
    rfl
  refine ⟨.int (ds.countP fun z => PyData.eqv z d : Nat), H, I.tok _, ⟨s.toks, ?_⟩, q⟩
  show Value.int ((its.toArray.toList.countP (fun u => PyData.eqv (SeqAt.readOf s.heap u) d) : Nat) : Int) s.toks = _
  rw [ec]
def rDict (K : PySem.W.Frag) : List V → Hp → VK → Prop := fun xs H Q => ∃ (a : Addr) (ps : List Addr) (kvs : List (Key × V)), xs = [.ref a] ∧ (SqL K H a (ps.map V.ref) ∨ (SqT K H a (ps.map V.ref) ∧ Pt K H a)) ∧ Paired (fun p kv => SqT K H p [kV kv.1, kv.2]) ps kvs ∧
    ∀ p, H p = none → Q (.ref p) (upd H p (.dK (mergeK [] kvs)))
theorem pairs_ofZ {pins : List (Addr × Obj)} {σ : L2.St} {H : Hp} {s : Shared} (I : L2.Inv X pins σ H s) : ∀ {ps : List Addr} {kvs : List (Key × V)}, Paired (fun p kv => SqT X.K H p [kV kv.1, kv.2]) ps kvs →
    ∃ (prs : List (Key × Value)) (pvs : List (Value × Value)), KV kvs prs ∧ prs.length = ps.length ∧ pvs.length = ps.length ∧ ∀ (j : Nat) (key v : Value), pvs[j]? = some (key, v) → ∃ k, prs[j]? = some (k, v) ∧ keyIs k key = true ∧ ps[j]? = some (ps.getD j 0) ∧ IsTup s.heap (ps.getD j 0) #[key, v]
  | _, _, .nil => ⟨[], [], .nil, rfl, rfl, fun j k v e => by simp at e⟩
  | _, _, .cons (a := p) (b := kv) h t => by
    obtain ⟨prs, pvs, r, hl, hl2, hp⟩ := pairs_ofZ I t
    obtain ⟨its, rv, ht, _⟩ := I.tuple h
    obtain ⟨u, y, ei, ru, ry⟩ := vals2 rv
    subst ei
    refine ⟨(kv.1, y) :: prs, (u, y) :: pvs, .cons ⟨rfl, ry⟩ r, by rw [List.length_cons, List.length_cons, hl], by rw [List.length_cons, List.length_cons, hl2], fun j key v e => ?_⟩
    cases j with
    | zero =>
      have e' : (u, y) = (key, v) := Option.some.inj e
      cases e'
      exact ⟨kv.1, rfl, kV_is (P := X.prog) (w := X.w) ru, rfl, ht⟩
    | succ j =>
      obtain ⟨k, e1, e2, e3, e4⟩ := hp j key v (by simpa using e)
      refine ⟨k, by simpa using e1, e2, ?_, ?_⟩
      · simpa using e3
      · simpa using e4
theorem call_dictZ (hcalm : X.calm = true) : CallR X (.type "dict") (rDict X.K) := by
  intro pins s σ H xs us Q I r q
  obtain ⟨a, ps, kvs, ex, hq, hp, q⟩ := q
  rcases hq with hq | ⟨hq, ht⟩
  · exact call_dictP hcalm pins s σ H xs us Q I r ⟨a, ps, kvs, ex, hq, hp, q⟩
  subst ex
  obtain ⟨u, eu, rx⟩ := vals1 r
  subst eu
  cases rx
  obtain ⟨its, rv, ⟨o, ho, hc, n, hdat⟩, hz⟩ := I.tuple hq
  have hod : o.dict = none := by
    rcases ht with ⟨o', u, h1, h2⟩ | ⟨o', h1, h2⟩
    · have := (I.hok a _ h1).1
      rw [ho] at this
      cases this
      exact h2
    · have := I.kIn a o' h1
      rw [ho] at this
      cases this
      exact h2
  have ei := refs_at rv
  subst ei
  rw [List.length_map] at hz
  obtain ⟨prs, pvs, rel, hl, hl2, hpr⟩ := pairs_ofZ I hp
  refine PySem.call_dict_pairs (knd := mixKind X.prog X.w) (kvs := prs) (PairArg.tuple a (ps.map Value.ref).toArray (fun j => ps.getD j 0) pvs) (I.ok.hd hcalm) ⟨⟨o, n, ho, hc, hod, hdat⟩, by simp [hl2], fun j k v e => ?_⟩ ⟨by rw [hl, hl2], fun i key v e => ?_⟩ (by rw [hl2]; exact hz) fun h' tk hd' k => ?_
  · obtain ⟨k', e1, e2, e3, e4⟩ := hpr j k v e
    refine ⟨?_, .inl e4⟩
    rw [List.getElem?_toArray, List.getElem?_map, e3]
    rfl
  · obtain ⟨k', e1, e2, _⟩ := hpr i key v e
    exact ⟨k', e1, e2⟩
  · have hm : (s.heap.objs.size == sysModules) = false := beq_eq_false_iff_ne.mpr (Nat.ne_of_gt I.big)
    have hlen : (mergeK [] kvs).length ≤ sizeLine := by
      refine Nat.le_trans (length_mergeK kvs []) ?_
      rw [List.length_nil, Nat.zero_add, rel.length, hl]
      exact hz
    exact ⟨.ref s.heap.objs.size, upd H s.heap.objs.size (.dK (mergeK [] kvs)), I.laid (t' := tk) (fun b o e => k b o (fun z => nomatch z) e) (Nat.le_refl _) (show ObjOk X.prog X.w _ _ _ (.dK (mergeK [] kvs)) from ⟨hlen, hm, merged [] prs, KV.merge rel .nil, hd'⟩), rfl, q _ (I.hok.fresh (Nat.le_refl _))⟩
def rSortD (K : PySem.W.Frag) : List V → Hp → VK → Prop := fun xs H Q => ∃ (a : Addr) (bs : List (V × D)), xs = [.ref a] ∧ SqL K H a (bs.map (·.1)) ∧ DpAll K H (bs.map (·.1)) (bs.map fun b => b.2.py) ∧
  PySem.W.AllAlike (bs.map fun b => b.2.py) ∧ PySem.W.Sortable (bs.map fun b => b.2.py) ∧ (∀ b ∈ bs, b.2.py.depth ≤ 60) ∧ ∀ l, H l = none → Q (.ref l) (upd H l (.lst ((bs.mergeSort (PySem.W.dataLe false fun b => b.2.py)).map (·.1))))
theorem each_vals : ∀ {bs : List (V × D)} {us : List Value}, Vals (bs.map (·.1)) us → PySem.W.EachIs (fun u (b : V × D) => RelV b.1 u) us bs
  | [], _, .nil => .nil
  | _ :: _, _, .cons h t => .cons h (each_vals t)
theorem vals_each : ∀ {bs : List (V × D)} {us : List Value}, PySem.W.EachIs (fun u (b : V × D) => RelV b.1 u) us bs → Vals (bs.map (·.1)) us
  | [], _, .nil => .nil
  | _ :: _, _, .cons h t => .cons h (vals_each t)
theorem cr_sortedD (hu : X.A.units + 65 < cLine) : CallR X (.builtin "sorted") (rSortD X.K) := by
  intro pins s σ H xs us Q I r q
  obtain ⟨a, bs, rfl, hq, hd, hal, hso, hdp, q⟩ := q
  obtain ⟨u, eu, rx⟩ := vals1 r
  subst eu
  cases rx
  obtain ⟨its, rv, pl, hz⟩ := I.list hq
  rw [List.length_map] at hz
  obtain ⟨as, h4⟩ := Dp.readsAll I _ _ its hd rv
  refine PySem.W.sorted_data (R := fun u (b : V × D) => RelV b.1 u) (enc := fun b : V × D => b.2.py) pl.isList (each_vals rv) (PySem.W.readsAll_each _ h4) hal hso hz (fun b hb => ?_) fun out ho eo => ?_
  · have := hdp b hb
    omega
  · obtain ⟨c, hc⟩ := sortedAll_at s.heap its out.toArray
    have rr := vals_each eo
    refine ⟨.ref (s.heap.objs.size + 1), upd H (s.heap.objs.size + 1) (.lst ((bs.mergeSort (PySem.W.dataLe false fun b => b.2.py)).map (·.1))), I.laid (t' := s.toks) (fun _ _ => sortedAll_old) (Nat.le_succ _) (show ObjOk X.prog X.w _ _ _ (.lst _) from ⟨?_, out, c, rr, hc⟩), rfl, q _ (I.hok.fresh (Nat.le_succ _))⟩
    rw [List.length_map, List.length_mergeSort]
    exact hz
end
end Mf
set_option Elab.async false
set_option linter.all false
set_option maxRecDepth 100000
set_option maxHeartbeats 1000000
namespace Mf
open PySem L2

theorem szM {n : Nat} (h : lenOk n = true) : n ≤ sizeLine := Nat.le_trans (of_decide_eq_true h) (by decide)
abbrev Fin {Y : Sys} (K : PySem.W.Frag) (c : Cf Y) (k : K3) (d : D) (Q : VK) : Prop := ∀ v (c' : Cf Y), c'.s = c.s → Step c c' → Ok c' → Is K c.H c' k v d → Q v c'.H

section
variable {Y : Sys} {c : Cf Y} {K : PySem.W.Frag} {Q : VK} {k : K3} {d : D}
theorem Fin.here (q : Fin K c .v d Q) (ok : Ok c) {v : V} (h : Rep K c.F v d) : Q v c.H := q v c rfl (Step.refl c) ok h
theorem Fin.tup {ds : List D} {vs : List V} (q : Fin K c .v (.tup ds) Q) (ok : Ok c) (r : Reps K c.F vs ds) : NewT c.H Q vs := fun p o hp ho =>
  q (.ref p) ⟨upd c.F p (.frz o (.tup vs)), upd c.H p (.frz o (.tup vs)), c.s, c.g⟩ rfl (Step.new ok hp _) (ok.new hp _) (Rep.tup (.inl (.inr ⟨o, upd_same⟩)) (.inl ⟨o, _, upd_same, ho⟩) (r.mono (Step.new ok hp (.frz o (.tup vs))).f))
theorem Ok.fr (ok : Ok c) {p : Addr} (hp : c.H p = none) : c.F p = none := by
  cases e : c.F p with
  | none => rfl
  | some u => rw [ok.sub _ _ e] at hp; cases hp
theorem Fin.lst {ds : List D} {vs : List V} (q : Fin K c .t (.lst ds) Q) (ok : Ok c) (r : Reps K c.F vs ds) : ∀ p, c.H p = none → Q (.ref p) (upd c.H p (.lst vs)) := fun p hp =>
  q (.ref p) ⟨c.F, upd c.H p (.lst vs), c.s, c.g⟩ rfl (Step.own ok hp _) (ok.own hp _) ⟨p, rfl, ⟨⟨vs, upd_same, r⟩, ok.fr hp, fun z => ok.has p z hp⟩, hp⟩
end

section
variable {X : Cx}
def CDivV (_ j : Int) : Prop := j ≠ 0 ∧ j.natAbs.log2 < 9000
theorem op_fdivV : OpR X (binaryOp .FloorDiv) (rI CDivV fun i j => .int (i.fdiv j)) := opI fun _ _ _ _ _ _ _ hc q => PyProof.Rows.floordiv_int hc.1 q (.inl (PyProof.noPylong_of_log2 hc.2))
def opB : Bop → Operator
  | .add => .Add | .sub => .Sub | .mul => .Mult | .fdv => .FloorDiv | .mod => .Mod
def rB (K : PySem.W.Frag) : Bop → R2
  | .add => fun x y H Q => rI0 (fun i j => .int (i + j)) x y H Q ∨ (rCatZ K x y H Q ∨ (rCat x y H Q ∨ (∃ i j, x = .str i ∧ y = .str j ∧ i.length + j.length ≤ sizeLine ∧ Q (.str (i ++ j)) H)))
  | .sub => rI0 (fun i j => .int (i - j))
  | .mul => fun x y H Q => rI CMulW (fun i j => .int (i * j)) x y H Q ∨ (rRepZ K x y H Q ∨ rRep x y H Q)
  | .fdv => rI CDivV fun i j => .int (i.fdiv j)
  | .mod => rI (fun _ j => j ≠ 0) fun i j => .int (i.fmod j)
theorem op_B (o : Bop) : OpR X (binaryOp (opB o)) (rB X.K o) := by
  cases o with
  | add => exact OpR.or op_add (OpR.or op_catZ (OpR.or op_cat op_add_str))
  | sub => exact op_sub
  | mul => exact OpR.or op_mulW (OpR.or op_repZ op_rep)
  | fdv => exact op_fdivV
  | mod => exact op_modN
end
theorem bin_use {Y : Sys} {c : Cf Y} {K : PySem.W.Frag} {H1 H2 : Hp} {k1 k2 k : K3} {x y : V} {a b d : D} {o : Bop} {Q : VK} (ok : Ok c) (hx : Is K H1 c k1 x a) (hy : Is K H2 c k2 y b) (e : binD o a b = some (k, d)) (q : Fin K c k d Q) : rB K o x y c.H Q := by
  unfold binD at e
  split at e
  · cases e
    exact .inl ⟨_, _, hx.int, hy.int, q.here ok (.int _)⟩
  · split at e
    · rename_i xs ys hl
      cases e
      obtain ⟨p, vs, rfl, h1, h1', r1⟩ := hx.tup ok
      obtain ⟨p2, vs2, rfl, h2, h2', r2⟩ := hy.tup ok
      refine .inr (.inl ⟨p, p2, vs, vs2, rfl, rfl, h1, h2, ?_, fun z => ?_, fun z => ?_, q.tup ok (r1.append r2)⟩)
      · rw [r1.length, r2.length]
        exact szM hl
      · subst z
        cases r1
        exact q.here ok (.tup h2'.1 h2'.2 r2)
      · subst z
        cases r2
        rw [List.append_nil] at q
        exact q.here ok (.tup h1'.1 h1'.2 r1)
    · cases e
  · split at e
    · rename_i xs ys hl
      cases e
      obtain ⟨p, vs, rfl, h1, r1⟩ := hx.lst ok
      obtain ⟨p2, vs2, rfl, h2, r2⟩ := hy.lst ok
      refine .inr (.inr (.inl ⟨p, p2, vs, vs2, rfl, rfl, h1, h2, ?_, q.lst ok (r1.append r2)⟩))
      rw [r1.length, r2.length]
      exact szM hl
    · cases e
  · split at e
    · rename_i xs ys hl
      cases e
      exact .inr (.inr (.inr ⟨_, _, hx.str, hy.str, szM hl, q.here ok (.str _)⟩))
    · cases e
  · cases e
    exact ⟨_, _, hx.int, hy.int, q.here ok (.int _)⟩
  · split at e
    · rename_i xs ys hl
      cases e
      exact .inl ⟨_, _, hx.int, hy.int, (of_decide_eq_true hl : xs.natAbs.log2 + ys.natAbs.log2 < 1000000), q.here ok (.int _)⟩
    · cases e
  · split at e
    · rename_i xs kk hl
      cases e
      simp only [Bool.and_eq_true, decide_eq_true_eq] at hl
      obtain ⟨⟨⟨l1, l2⟩, l3⟩, l4⟩ := hl
      obtain ⟨p, vs, rfl, h1, h1', r1⟩ := hx.tup ok
      refine .inr (.inl ⟨p, _, vs, rfl, hy.int, h1, fun z => ?_, l1, l2, ?_, q.tup ok (r1.rep _)⟩)
      · subst z
        cases r1
        cases l4
      · rw [r1.length]
        exact l3
    · cases e
  · split at e
    · rename_i xs kk hl
      cases e
      simp only [Bool.and_eq_true, decide_eq_true_eq] at hl
      obtain ⟨⟨l1, l2⟩, l3⟩ := hl
      obtain ⟨p, vs, rfl, h1, r1⟩ := hx.lst ok
      refine .inr (.inr ⟨p, _, vs, rfl, hy.int, h1, by omega, by omega, ?_, q.lst ok (r1.rep _)⟩)
      rw [r1.length]
      exact Nat.le_trans (Nat.mul_le_mul l3 (show kk.toNat ≤ 1000 by omega)) (by decide)
    · cases e
  · split at e
    · rename_i xs ys hl
      cases e
      have hl := Bool.and_eq_true_iff.mp hl
      exact ⟨_, _, hx.int, hy.int, ⟨of_decide_eq_true hl.1, of_decide_eq_true hl.2⟩, q.here ok (.int _)⟩
    · cases e
  · split at e
    · rename_i xs ys hl
      cases e
      exact ⟨_, _, hx.int, hy.int, of_decide_eq_true hl, q.here ok (.int _)⟩
    · cases e
  · cases e

theorem lookD_val {K : PySem.W.Frag} {F : Hp} {x : Str} : ∀ {kvs : List (Key × V)} {es : List (Str × D)}, RepK K F kvs es → (∀ d, lookD x es = some d → ∃ v, valV kvs (.inr x) = some v ∧ Rep K F v d) ∧ (lookD x es = none → valV kvs (.inr x) = none)
  | _, _, .nil => And.intro (fun d h => by cases h) (fun _ => rfl)
  | _, _, .cons (x := y) (v := v) (d := d) (kvs := kvs) (es := es) h r => by
    have ih := lookD_val (x := x) r
    by_cases e : y = x
    · subst e
      have e1 : lookD y ((y, d) :: es) = some d := if_pos rfl
      have e2 : valV ((Sum.inr y, v) :: kvs) (.inr y) = some v := by
        unfold valV
        rw [List.find?_cons_of_pos (by simp)]
        rfl
      exact ⟨fun d' q => by rw [e1] at q; cases q; exact ⟨v, e2, h⟩, fun q => by rw [e1] at q; cases q⟩
    · have e1 : lookD x ((y, d) :: es) = lookD x es := if_neg e
      have e2 : valV ((Sum.inr y, v) :: kvs) (.inr x) = valV kvs (.inr x) := by
        unfold valV
        rw [List.find?_cons_of_neg (by simpa using e)]
      rw [e1, e2]
      exact ih
section
variable {X : Cx}
theorem op_in_dct (hu : X.A.units + 1 < cLine) : OpR X (compareOp .In) (fun x y H Q => ∃ a o, y = .ref a ∧ DGet H a x o ∧ Q (.bl o.isSome) H) := by
  intro pins s σ H x y v u Q I rx ry h
  obtain ⟨a, o, rfl, g, q⟩ := h
  cases ry
  exact d_in hu I g rx fun s3 I3 => ⟨.bl o.isSome, H, I3, rfl, q⟩
theorem op_notin_dct (hu : X.A.units + 1 < cLine) : OpR X (compareOp .NotIn) (fun x y H Q => ∃ a o, y = .ref a ∧ DGet H a x o ∧ Q (.bl (!o.isSome)) H) := by
  intro pins s σ H x y v u Q I rx ry h
  obtain ⟨a, o, rfl, g, q⟩ := h
  cases ry
  exact d_notIn hu I g rx fun s3 I3 => ⟨.bl (!o.isSome), H, I3, rfl, q⟩
theorem hr65 {n : Nat} (hr : Room n X.A) : X.A.units + 65 < cLine := by
  have := hr.un
  omega
def opC : Cop → CmpOp
  | .eq => .Eq | .ne => .NotEq | .lt => .Lt | .le => .LtE | .gt => .Gt | .ge => .GtE | .isin => .In | .notin => .NotIn | .is => .Is | .isnot => .IsNot
def rC (K : PySem.W.Frag) : Cop → R2
  | .eq => rEqD K
  | .ne => rNeD K
  | .lt => fun x y H Q => rI0 (fun i j => .bl (decide (i < j))) x y H Q ∨ (∃ i j, x = .str i ∧ y = .str j ∧ Q (.bl (decide (i.cps.toList < j.cps.toList))) H)
  | .le => rI0 fun i j => .bl (decide (i ≤ j))
  | .gt => rI0 fun i j => .bl (decide (j < i))
  | .ge => rI0 fun i j => .bl (decide (j ≤ i))
  | .isin => fun x y H Q => rIn K false x y H Q ∨ (rInT K false x y H Q ∨ ((∃ i j, x = .str i ∧ y = .str j ∧ Q (.bl (!(Builtin.Str.occurrences j i 0 j.length 1).isEmpty)) H) ∨ ∃ a o, y = .ref a ∧ DGet H a x o ∧ Q (.bl o.isSome) H))
  | .notin => fun x y H Q => rIn K true x y H Q ∨ (rInT K true x y H Q ∨ ((∃ i j, x = .str i ∧ y = .str j ∧ Q (.bl (!(!(Builtin.Str.occurrences j i 0 j.length 1).isEmpty))) H) ∨ ∃ a o, y = .ref a ∧ DGet H a x o ∧ Q (.bl (!o.isSome)) H))
  | .is => fun x y H Q => (y = .non ∧ Q (.bl (decide (x = .non))) H) ∨ (∃ a b, x = .bl a ∧ y = .bl b ∧ Q (.bl (decide (a = b))) H)
  | .isnot => fun x y H Q => (y = .non ∧ Q (.bl (!decide (x = .non))) H) ∨ (∃ a b, x = .bl a ∧ y = .bl b ∧ Q (.bl (!decide (a = b))) H)
theorem op_C {n : Nat} (hr : Room n X.A) (o : Cop) : OpR X (compareOp (opC o)) (rC X.K o) := by
  cases o with
  | eq => exact op_eqD hr.units
  | ne => exact op_neD hr.units
  | lt => exact OpR.or op_lt op_lt_str
  | le => exact op_le
  | gt => exact op_gt
  | ge => exact op_ge
  | isin => exact OpR.or op_in_seq (OpR.or (op_inT (hr65 hr)) (OpR.or op_in_str (op_in_dct (hu_of hr))))
  | notin => exact OpR.or op_notIn_seq (OpR.or (op_notInT (hr65 hr)) (OpR.or op_notin_str (op_notin_dct (hu_of hr))))
  | is => exact OpR.or op_isN op_is_bl
  | isnot => exact OpR.or op_notN op_isnot_bl
end
theorem rep_flat {K : PySem.W.Frag} {F : Hp} {v : V} {d : D} (h : Rep K F v d) (f : flatD d = true) : flatV v = true := by
  cases h <;> first | rfl | cases f
theorem rep_eqV {K : PySem.W.Frag} {F : Hp} {v w : V} {d e : D} (h : Rep K F v d) (g : Rep K F w e) (f : flatD d = true) (f' : flatD e = true) : eqV v w = deq d e := by
  cases h <;> cases g <;> first | rfl | cases f | cases f'
theorem reps_flat {K : PySem.W.Frag} {F : Hp} : ∀ {vs : List V} {ds : List D}, Reps K F vs ds → ds.all flatD = true → vs.all flatV = true
  | _, _, .nil, _ => rfl
  | _, _, .cons h r, f => by
    have f := Bool.and_eq_true_iff.mp f
    exact Bool.and_eq_true_iff.mpr ⟨rep_flat h f.1, reps_flat r f.2⟩
theorem reps_in {K : PySem.W.Frag} {F : Hp} {x : V} {e : D} (g : Rep K F x e) (fe : flatD e = true) : ∀ {vs : List V} {ds : List D}, Reps K F vs ds → ds.all flatD = true → inV x vs = ds.any fun y => deq y e
  | _, _, .nil, _ => rfl
  | _, _, .cons h r, f => by
    have f := Bool.and_eq_true_iff.mp f
    unfold inV
    rw [List.any_cons, List.any_cons, rep_eqV h g f.1 fe, ← reps_in g fe r f.2]
    rfl
theorem Is.flat {Y : Sys} {c : Cf Y} {K : PySem.W.Frag} {H1 : Hp} {k : K3} {x : V} {a : D} (h : Is K H1 c k x a) (f : flatD a = true) : Rep K c.F x a := by
  cases k with
  | v => exact h
  | t => obtain ⟨p, _, o, _⟩ := h; cases a <;> first | exact o.1.elim | cases f
  | o => obtain ⟨p, _, o⟩ := h; cases a <;> first | exact o.1.elim | cases f
theorem shaped_lst {ds : List D} (h : shs 59 ds = true) : SeqAt.shaped (.list (pys ds)) = true := shaped_of (d := .lst ds) h
theorem any_pys {e : D} (he : e.sh 60 = true) : ∀ (ds : List D), shs 59 ds = true → ((pys ds).any fun z => PyData.eqv z e.py) = ds.any fun y => deq y e
  | [], _ => rfl
  | d :: ds, h => by
    have h := Bool.and_eq_true_iff.mp h
    show (PyData.eqv d.py e.py || (pys ds).any fun z => PyData.eqv z e.py) = (deq d e || ds.any fun y => deq y e)
    rw [py_eqv 59 60 d e h.1 he, any_pys he ds h.2]
theorem in_use {Y : Sys} {c : Cf Y} {K : PySem.W.Frag} {H1 H2 : Hp} {k1 k2 : K3} {x y : V} {a b : D} {r : Bool} (ok : Ok c) (hx : Is K H1 c k1 x a) (hy : Is K H2 c k2 y b) (e : inD a b = some r) :
    (∃ p xs, y = .ref p ∧ (SqL K c.H p xs ∨ SqT K c.H p xs) ∧ flatV x = true ∧ xs.all flatV = true ∧ inV x xs = r) ∨ (∃ d ds, Dp K c.H x d ∧ (Dp K c.H y (.list ds) ∨ Dp K c.H y (.tuple ds)) ∧ SeqAt.shaped d = true ∧ SeqAt.shaped (.list ds) = true ∧ (ds.any fun z => PyData.eqv z d) = r) ∨ (∃ i j, x = .str i ∧ y = .str j ∧ (!(Builtin.Str.occurrences j i 0 j.length 1).isEmpty) = r) ∨ ∃ p o, y = .ref p ∧ DGet c.H p x o ∧ o.isSome = r := by
  unfold inD at e
  split at e
  · split at e
    · rename_i ds hf
      cases e
      rcases Bool.or_eq_true_iff.mp hf with hf | hf
      rotate_left
      · have hf := Bool.and_eq_true_iff.mp hf
        exact .inr (.inl ⟨_, _, hx.dp ok hf.1, .inr (hy.dp ok hf.2), shaped_of hf.1, shaped_lst hf.2, any_pys hf.1 ds hf.2⟩)
      have hf := Bool.and_eq_true_iff.mp hf
      obtain ⟨p, vs, rfl, h1, h1', r1⟩ := hy.tup ok
      exact .inl ⟨p, vs, rfl, .inr h1, rep_flat (hx.flat hf.1) hf.1, reps_flat r1 hf.2, reps_in (hx.flat hf.1) hf.1 r1 hf.2⟩
    · cases e
  · split at e
    · rename_i ds hf
      cases e
      rcases Bool.or_eq_true_iff.mp hf with hf | hf
      rotate_left
      · have hf := Bool.and_eq_true_iff.mp hf
        exact .inr (.inl ⟨_, _, hx.dp ok hf.1, .inl (hy.dp ok hf.2), shaped_of hf.1, shaped_lst hf.2, any_pys hf.1 ds hf.2⟩)
      have hf := Bool.and_eq_true_iff.mp hf
      obtain ⟨p, vs, rfl, h1, r1⟩ := hy.lst ok
      exact .inl ⟨p, vs, rfl, .inl (.inl (.inl h1)), rep_flat (hx.flat hf.1) hf.1, reps_flat r1 hf.2, reps_in (hx.flat hf.1) hf.1 r1 hf.2⟩
    · cases e
  · cases e
    exact .inr (.inr (.inl ⟨_, _, hx.str, hy.str, rfl⟩))
  · rename_i x' es
    cases e
    obtain ⟨p, kvs, rfl, h1, r1⟩ := hy.dct ok
    refine .inr (.inr (.inr ⟨p, _, rfl, by rw [hx.str]; exact DGet.k (k := .inr x') h1, ?_⟩))
    have q := lookD_val (x := x') r1
    cases hl : lookD x' es with
    | none => rw [q.2 hl]; rfl
    | some d => obtain ⟨v, ev, _⟩ := q.1 d hl; rw [ev]; rfl
  · cases e
theorem is_use {Y : Sys} {c : Cf Y} {K : PySem.W.Frag} {H1 H2 : Hp} {k1 k2 : K3} {x y : V} {a b : D} {r : Bool} (hx : Is K H1 c k1 x a) (hy : Is K H2 c k2 y b) (e : isD a b = some r) :
    (y = .non ∧ decide (x = .non) = r) ∨ (∃ a b, x = .bl a ∧ y = .bl b ∧ decide (a = b) = r) := by
  unfold isD at e
  split at e
  · cases e
    exact .inl ⟨hy.non, decide_eq_true hx.non⟩
  · cases e
    exact .inr ⟨_, _, hx.bl, hy.bl, rfl⟩
  · rename_i hn
    cases e
    refine .inl ⟨hy.non, decide_eq_false fun z => ?_⟩
    subst z
    cases k1 with
    | v => cases hx with | non => exact hn rfl
    | t => obtain ⟨p, z, _⟩ := hx; cases z
    | o => obtain ⟨p, z, _⟩ := hx; cases z
  · cases e
theorem cmp_use {Y : Sys} {c : Cf Y} {K : PySem.W.Frag} {H1 H2 : Hp} {k1 k2 : K3} {x y : V} {a b : D} {o : Cop} {r : Bool} {Q : VK} (ok : Ok c) (hx : Is K H1 c k1 x a) (hy : Is K H2 c k2 y b) (e : cmpD o a b = some r) (q : Q (.bl r) c.H) : rC K o x y c.H Q := by
  have eqs : ∀ {r : Bool}, eqD a b = some r → ∃ d e, Dp K c.H x d ∧ Dp K c.H y e ∧ SeqAt.shaped d = true ∧ SeqAt.shaped e = true ∧ PyData.eqv d e = r := by
    intro r e
    unfold eqD at e
    split at e
    · rename_i h
      have h := Bool.and_eq_true_iff.mp h
      cases e
      exact ⟨_, _, hx.dp ok h.1, hy.dp ok h.2, shaped_of h.1, shaped_of h.2, py_eqv _ _ _ _ h.1 h.2⟩
    · cases e
  cases o with
  | eq =>
    obtain ⟨d, e', h1, h2, h3, h4, h5⟩ := eqs e
    exact ⟨d, e', h1, h2, h3, h4, by rw [h5]; exact q⟩
  | ne =>
    have e : (eqD a b).map (!·) = some r := e
    obtain ⟨r', e1, e2⟩ := Option.map_eq_some_iff.mp e
    obtain ⟨d, e', h1, h2, h3, h4, h5⟩ := eqs e1
    exact ⟨d, e', h1, h2, h3, h4, by rw [h5, e2]; exact q⟩
  | isin =>
    rcases in_use ok hx hy e with ⟨p, xs, h1, h2, h3, h4, h5⟩ | ⟨d, ds, h1, h2, h3, h4, h5⟩ | ⟨i, j, h1, h2, h3⟩ | ⟨p, o, h1, h2, h3⟩
    · exact .inl ⟨p, xs, h1, h2, h3, h4, by rw [if_neg Bool.false_ne_true, h5]; exact q⟩
    · exact .inr (.inl ⟨d, ds, h1, h2, h3, h4, by rw [h5, Bool.false_xor]; exact q⟩)
    · exact .inr (.inr (.inl ⟨i, j, h1, h2, by rw [h3]; exact q⟩))
    · exact .inr (.inr (.inr ⟨p, o, h1, h2, by rw [h3]; exact q⟩))
  | notin =>
    have e : (inD a b).map (!·) = some r := e
    obtain ⟨r', e1, e2⟩ := Option.map_eq_some_iff.mp e
    rcases in_use ok hx hy e1 with ⟨p, xs, h1, h2, h3, h4, h5⟩ | ⟨d, ds, h1, h2, h3, h4, h5⟩ | ⟨i, j, h1, h2, h3⟩ | ⟨p, o, h1, h2, h3⟩
    · exact .inl ⟨p, xs, h1, h2, h3, h4, by rw [if_pos rfl, h5, e2]; exact q⟩
    · exact .inr (.inl ⟨d, ds, h1, h2, h3, h4, by rw [h5, Bool.true_xor, e2]; exact q⟩)
    · exact .inr (.inr (.inl ⟨i, j, h1, h2, by rw [h3, e2]; exact q⟩))
    · exact .inr (.inr (.inr ⟨p, o, h1, h2, by rw [h3, e2]; exact q⟩))
  | is =>
    rcases is_use hx hy e with ⟨h1, h2⟩ | ⟨a', b', h1, h2, h3⟩
    · exact .inl ⟨h1, by rw [h2]; exact q⟩
    · exact .inr ⟨a', b', h1, h2, by rw [h3]; exact q⟩
  | isnot =>
    have e : (isD a b).map (!·) = some r := e
    obtain ⟨r', e1, e2⟩ := Option.map_eq_some_iff.mp e
    rcases is_use hx hy e1 with ⟨h1, h2⟩ | ⟨a', b', h1, h2, h3⟩
    · exact .inl ⟨h1, by rw [h2, e2]; exact q⟩
    · exact .inr ⟨a', b', h1, h2, by rw [h3, e2]; exact q⟩
  | lt =>
    unfold cmpD at e
    split at e <;> first | cases e | skip
    all_goals first | (exact .inl ⟨_, _, hx.int, hy.int, q⟩) | (exact .inr ⟨_, _, hx.str, hy.str, q⟩) | skip
    all_goals simp_all
  | le =>
    unfold cmpD at e
    split at e <;> first | cases e | skip
    all_goals first | (exact ⟨_, _, hx.int, hy.int, q⟩) | simp_all
  | gt =>
    unfold cmpD at e
    split at e <;> first | cases e | skip
    all_goals first | (exact ⟨_, _, hx.int, hy.int, q⟩) | simp_all
  | ge =>
    unfold cmpD at e
    split at e <;> first | cases e | skip
    all_goals first | (exact ⟨_, _, hx.int, hy.int, q⟩) | simp_all
end Mf
set_option Elab.async false
set_option linter.all false
set_option maxRecDepth 100000
set_option maxHeartbeats 1000000
namespace Mf
open PySem L2 PySem.Spec PyProof.Rows
section
variable {prog : Program} {w : World} {A : Around} {E : Value → Shared → Prop} {s : Shared}
theorem collect_tupv {l : Addr} {vs : List Value} {Q : List Value → Shared → Prop} (hl : IsTup s.heap l vs.toArray) (hz : vs.length ≤ sizeLine)
    (h : Q vs { s with heap := (s.heap.push (seqObj "list" #[] 0)).update s.heap.objs.size (Obj.mapSeq (· ++ vs.toArray)) }) : wpAny (model prog w) A (collect (.ref l)) Q E s := by
  obtain ⟨o, ho, hc, n, hd⟩ := id hl
  have hp : (s.heap.push (seqObj "list" #[] 0)).get? l = some o := Heap.get?_push_of_some _ ho
  have hnew : (s.heap.push (seqObj "list" #[] 0)).get? s.heap.objs.size = some (seqObj "list" #[] 0) := Heap.get?_push_size _ rfl
  have tt : (Builtin.List.listSameRef (.ref s.heap.objs.size) (.ref l) || Value.type "tuple" == .type "list" || Value.type "tuple" == .type "tuple") = true := by
    rw [show (Value.type "tuple" == Value.type "tuple") = true from by decide +kernel, Bool.or_true]
  unfold collect
  refine wpAny_bind (wpAny_runValue (codeAny_builtin entry_proto_collect' (wpAny_bind (wpAny_newList (wpAny_pure ⟨Code.quiet_builtin _ (by decide +kernel), codeAny_builtin entry_list_iadd' ?_⟩)))))
  show wpAny _ _ (Builtin.List.listExtendWith (.ref s.heap.objs.size) (.ref l) (.ref s.heap.objs.size)) _ _ { s with heap := s.heap.push (seqObj "list" #[] 0) }
  unfold Builtin.List.listExtendWith
  refine wpAny_bind (wpAny_typeOf (T := "tuple") ⟨o, hp, hc⟩ ?_)
  rw [if_pos tt]
  refine wpAny_bind (listItems_at hp hd (wpAny_bind (listItems_at (xs := #[]) (n := 0) hnew rfl ?_)))
  rw [if_neg (by simp)]
  refine wpAny_bind (listUpdate_at (xs := #[]) (n := 0) hnew rfl ?_ (Nat.zero_le _) (by simp only [Array.size_append, List.size_toArray, List.length_nil]; show 0 + vs.length ≤ _; omega))
  refine wpAny_pure ?_
  show wpAny (model prog w) A (do
      let o ← load s.heap.objs.size
      match o.data with
      | .seq xs _ => pure xs.toList
      | _ => unsupported "internal:collect") Q E { s with heap := (s.heap.push (seqObj "list" #[] 0)).update s.heap.objs.size (Obj.mapSeq (· ++ vs.toArray)) }
  refine wpAny_bind (wpAny_load (get?_update_seq hnew _) ?_)
  have e : ((#[] : Array Value) ++ vs.toArray).toList = vs := by simp
  show wpAny _ _ (pure ((#[] : Array Value) ++ vs.toArray).toList) Q E _
  rw [e]
  exact wpAny_pure h
theorem sorted_tupv {β : Type} {l : Addr} {vs : List Value} {bs : List β} {enc : β → PyData} {R : Value → β → Prop} {Q : Value → Shared → Prop} (hl : IsTup s.heap l vs.toArray) (e : PySem.W.EachIs R vs bs) (er : PySem.W.EachIs (fun v b => ∃ as, Reads s.heap v (enc b) as) vs bs) (hal : PySem.W.AllAlike (bs.map enc)) (hk : PySem.W.Sortable (bs.map enc)) (hL : bs.length ≤ sizeLine)
    (hu : ∀ b, b ∈ bs → A.units + 2 + (enc b).depth < cLine) (h : ∀ out, out.length = bs.length → PySem.W.EachIs R out (bs.mergeSort (PySem.W.dataLe false enc)) → Q (.ref (s.heap.objs.size + 1)) { s with heap := sortedAll s.heap vs (List.toArray out) }) :
    wpAny (model prog w) A (call (.builtin "sorted") [.ref l]) Q E s := by
  have hv : vs.length ≤ sizeLine := by rw [e.length]; exact hL
  have er' : PySem.W.EachIs (fun v b => ∃ as, Reads (PySem.W.sortingHeap (PySem.W.copyHeap s.heap vs) (s.heap.objs.size + 1) vs) v (enc b) as) vs bs := er.mono fun _ _ ⟨as, r⟩ => ⟨as, Reads.keeps (fun _ _ => PySem.W.sorting_copy_old) r⟩
  refine Calls.call_function_entry kind_sorted plain_sorted entry_sorted (args_sorted1 _) ?_
  unfold Builtin.«sorted»
  refine wpAny_bind (m := checkCount "sorted" 1 1 _) (wpAny_pure (wpAny_bind (collect_tupv hl hv (wpAny_bind (wpAny_newList ?_ hv)))))
  have hsz : ((s.heap.push (seqObj "list" #[] 0)).update s.heap.objs.size (Obj.mapSeq (· ++ vs.toArray))).objs.size = s.heap.objs.size + 1 := by
    rw [Heap.size_update, size_push']
  show wpAny _ _ _ _ _ { s with heap := PySem.W.copyHeap s.heap vs }
  rw [hsz]
  refine wpAny_bind (wpAny_holding (wpAny_call_entry_kw slot_list_sort ⟨_, PySem.W.copyHeap_at s.heap vs, rfl⟩ entry_list_sort ?_ (args_list_sort _)))
  refine PySem.W.list_sort_vals (s := { s with heap := PySem.W.copyHeap s.heap vs }) (PySem.W.copyHeap_at s.heap vs) (PySem.W.SortsAt.data (s := { s with heap := PySem.W.sortingHeap (PySem.W.copyHeap s.heap vs) (s.heap.objs.size + 1) vs }) (PySem.W.each_map (R := fun v d => ∃ as, Reads (PySem.W.sortingHeap (PySem.W.copyHeap s.heap vs) (s.heap.objs.size + 1) vs) v d as) enc er') hal hk (PySem.W.bound_map hu)) hv ⟨_, rfl, wpAny_pure ⟨_, rfl, ?_⟩⟩
  exact h _ (by rw [PySem.W.sortVals_length false rfl]; exact e.length) (PySem.W.sortVals_data false e er' hal)
end
section
variable {X : Cx}
def rSortT (K : PySem.W.Frag) : List V → Hp → VK → Prop := fun xs H Q => ∃ (a : Addr) (bs : List (V × D)), xs = [.ref a] ∧ SqT K H a (bs.map (·.1)) ∧ DpAll K H (bs.map (·.1)) (bs.map fun b => b.2.py) ∧
  PySem.W.AllAlike (bs.map fun b => b.2.py) ∧ PySem.W.Sortable (bs.map fun b => b.2.py) ∧ (∀ b ∈ bs, b.2.py.depth ≤ 60) ∧ ∀ l, H l = none → Q (.ref l) (upd H l (.lst ((bs.mergeSort (PySem.W.dataLe false fun b => b.2.py)).map (·.1))))
theorem cr_sortedTD (hu : X.A.units + 65 < cLine) : CallR X (.builtin "sorted") (rSortT X.K) := by
  intro pins s σ H xs us Q I r q
  obtain ⟨a, bs, rfl, hq, hd, hal, hso, hdp, q⟩ := q
  obtain ⟨u, eu, rx⟩ := vals1 r
  subst eu
  cases rx
  obtain ⟨its, rv, pl, hz⟩ := I.tuple hq
  rw [List.length_map] at hz
  obtain ⟨as, h4⟩ := Dp.readsAll I _ _ its hd rv
  refine sorted_tupv (R := fun u (b : V × D) => RelV b.1 u) (enc := fun b : V × D => b.2.py) pl (each_vals rv) (PySem.W.readsAll_each _ h4) hal hso hz (fun b hb => ?_) fun out ho eo => ?_
  · have := hdp b hb
    omega
  · obtain ⟨c, hc⟩ := sortedAll_at s.heap its out.toArray
    refine ⟨.ref (s.heap.objs.size + 1), upd H (s.heap.objs.size + 1) (.lst ((bs.mergeSort (PySem.W.dataLe false fun b => b.2.py)).map (·.1))), I.laid (t' := s.toks) (fun _ _ => sortedAll_old) (Nat.le_succ _) (show ObjOk X.prog X.w _ _ _ (.lst _) from ⟨?_, out, c, vals_each eo, hc⟩), rfl, q _ (I.hok.fresh (Nat.le_succ _))⟩
    rw [List.length_map, List.length_mergeSort]
    exact hz
end
end Mf
set_option Elab.async false
set_option linter.all false
set_option maxRecDepth 100000
set_option maxHeartbeats 1000000
namespace Mf
open PySem L2

theorem CallR.or {X : Cx} {f : Value} {r r' : List V → Hp → VK → Prop} (h : CallR X f r) (h' : CallR X f r') : CallR X f (fun vs H Q => r vs H Q ∨ r' vs H Q) := by
  intro pins s σ H vs us Q I rs q
  rcases q with q | q
  · exact h pins s σ H vs us Q I rs q
  · exact h' pins s σ H vs us Q I rs q
section
variable {X : Cx}
theorem ix_dct (hu : X.A.units + 1 < cLine) : IxR X (fun x y H Q => ∃ a v, x = .ref a ∧ DGet H a y (some v) ∧ Q v H) := by
  intro value slice pins s σ H x y v u Q I rx ry h hs
  obtain ⟨a, w', rfl, g, q⟩ := h
  cases rx
  exact PyProof.Rows.tail_any (dict_typeIs I g) PySem.F.slot_dict_getitem.lookup (d_getItem hu I g ry fun w'' s' I' r' => ⟨w', H, I', r', q⟩) hs
def rX (K : PySem.W.Frag) : R2 := fun x y H Q => rIx K x y H Q ∨ ∃ a v, x = .ref a ∧ DGet H a y (some v) ∧ Q v H
theorem ix_X {n : Nat} (hr : Room n X.A) : IxR X (rX X.K) := IxR.or ix_seq (ix_dct (hu_of hr))
end
theorem Reps.atI {K : PySem.W.Frag} {F : Hp} {vs : List V} {ds : List D} {i : Int} {d : D} (r : Reps K F vs ds) (e : L2.atI ds i = some d) : ∃ v, L2.atI vs i = some v ∧ Rep K F v d := by
  unfold L2.atI at e ⊢
  rw [r.length]
  cases h : ixN ds.length i with
  | none => rw [h] at e; cases e
  | some j =>
    rw [h] at e
    exact r.get (show ds[j]? = some d from e)
theorem ix_use {Y : Sys} {c : Cf Y} {K : PySem.W.Frag} {H1 H2 : Hp} {k1 k2 : K3} {x y : V} {a b d : D} {Q : VK} (ok : Ok c) (hx : Is K H1 c k1 x a) (hy : Is K H2 c k2 y b) (e : ixD a b = some d) (q : Fin K c .v d Q) : rX K x y c.H Q := by
  unfold ixD at e
  split at e
  · obtain ⟨p, vs, rfl, h1, h1', r1⟩ := hx.tup ok
    obtain ⟨v, e1, r2⟩ := r1.atI e
    exact .inl (.inr (.inl ⟨p, vs, _, v, rfl, hy.int, h1, e1, q.here ok r2⟩))
  · obtain ⟨p, vs, rfl, h1, r1⟩ := hx.lst ok
    obtain ⟨v, e1, r2⟩ := r1.atI e
    exact .inl (.inl ⟨p, vs, _, v, rfl, hy.int, .inl (.inl h1), e1, q.here ok r2⟩)
  · split at e
    · rename_i z i hl
      obtain ⟨cc, e1, e2⟩ := Option.map_eq_some_iff.mp e
      subst e2
      exact .inl (.inr (.inr ⟨z, i, cc, hx.str, hy.int, szM hl, e1, q.here ok (.str _)⟩))
    · cases e
  · rename_i es z
    obtain ⟨p, kvs, rfl, h1, r1⟩ := hx.dct ok
    obtain ⟨v, ev, rv⟩ := (lookD_val (x := z) r1).1 d e
    exact .inr ⟨p, v, rfl, by rw [hy.str, ← ev]; exact DGet.k (k := .inr z) h1, q.here ok rv⟩
  · cases e
def rS (K : PySem.W.Frag) : V → Option Int → Option Int → Hp → VK → Prop := fun x lo hi H Q => rSlZ K x lo hi H Q ∨ (rSlL K x lo hi H Q ∨ rSlS x lo hi H Q)
theorem sl_S {X : Cx} : SlR X (rS X.K) := SlR.or sl_tupZ (SlR.or sl_list sl_str)
theorem sl_use {Y : Sys} {c : Cf Y} {K : PySem.W.Frag} {H1 : Hp} {k1 k : K3} {x : V} {a d : D} {lo hi : Option Int} {Q : VK} (ok : Ok c) (hx : Is K H1 c k1 x a) (e : slD a lo hi = some (k, d)) (q : Fin K c k d Q) : rS K x lo hi c.H Q := by
  unfold slD at e
  split at e
  · rename_i ds
    cases e
    obtain ⟨p, vs, rfl, h1, h1', r1⟩ := hx.tup ok
    have rc : Reps K c.F (cutV vs lo hi) ((ds.drop (HT.sIx ds.length 0 lo)).take (HT.sIx ds.length ds.length hi - HT.sIx ds.length 0 lo)) := by
      unfold cutV
      rw [r1.length]
      exact (r1.drop _).take _
    refine .inl ⟨p, vs, rfl, h1, fun z => ?_, q.tup ok rc⟩
    rw [z] at rc
    exact q.here ok (.tup h1'.1 h1'.2 rc)
  · rename_i ds
    cases e
    obtain ⟨p, vs, rfl, h1, r1⟩ := hx.lst ok
    refine .inr (.inl ⟨p, vs, rfl, .inl (.inl h1), q.lst ok ?_⟩)
    unfold cutV
    rw [r1.length]
    exact (r1.drop _).take _
  · split at e
    · rename_i z hl
      cases e
      exact .inr (.inr ⟨z, hx.str, szM hl, q.here ok (.str _)⟩)
    · cases e
  · cases e
def nmB : B1 → Str
  | .len => "len" | .abs => "abs" | .int => "int" | .tuple => "tuple" | .list => "list" | .all => "all" | .any => "any" | .max => "max" | .dict => "dict" | .sorted => "sorted"
def vlB : B1 → Value
  | .len => .builtin "len" | .abs => .builtin "abs" | .int => .type "int" | .tuple => .type "tuple" | .list => .type "list" | .all => .builtin "all" | .any => .builtin "any" | .max => .builtin "max" | .dict => .type "dict" | .sorted => .builtin "sorted"
def r1 (K : PySem.W.Frag) : B1 → List V → Hp → VK → Prop
  | .len => fun xs H Q => ∃ x n, xs = [x] ∧ LenV K x H n ∧ Q (.int n) H
  | .abs => fun xs H Q => ∃ i, xs = [.int i] ∧ Q (.int (if i < 0 then -i else i)) H
  | .int => fun xs H Q => (∃ i, xs = [.int i] ∧ Q (.int i) H) ∨ ∃ k, xs = [.bl k] ∧ Q (.int (if k then 1 else 0)) H
  | .tuple => fun xs H Q => ∃ p ys, xs = [.ref p] ∧ ((SqL K H p ys ∧ NewT H Q ys) ∨ (SqT K H p ys ∧ Q (.ref p) H))
  | .list => fun xs H Q => ∃ p ys, xs = [.ref p] ∧ (SqL K H p ys ∨ SqT K H p ys) ∧ ∀ l, H l = none → Q (.ref l) (upd H l (.lst ys))
  | .all => rAll K
  | .any => rAny K
  | .max => rMax K
  | .dict => rDict K
  | .sorted => fun xs H Q => rSortD K xs H Q ∨ rSortT K xs H Q
theorem call_1 {X : Cx} {n : Nat} (hr : Room n X.A) (hc : X.calm = true) (f : B1) : CallR X (vlB f) (r1 X.K f) := by
  cases f with
  | len => exact call_len
  | abs => exact call_abs
  | int => exact call_int1
  | tuple => exact call_tupleZ
  | list => exact call_list_of
  | all => exact cr_all hc
  | any => exact cr_any hc
  | max => exact cr_max hc
  | dict => exact call_dictZ hc
  | sorted => exact fun pins s σ H xs us Q I r h => h.elim (cr_sortedD (hr65 hr) pins s σ H xs us Q I r) (cr_sortedTD (hr65 hr) pins s σ H xs us Q I r)
theorem bools_rep {K : PySem.W.Frag} {F : Hp} : ∀ {vs : List V} {ds : List D} {bs : List Bool}, Reps K F vs ds → boolsD ds = some bs → vs = bs.map V.bl
  | _, _, _, .nil, e => by cases e; rfl
  | _, _, bs, .cons (d := d) h r, e => by
    cases h <;> first | cases e | skip
    obtain ⟨b', e1, e2⟩ := Option.map_eq_some_iff.mp e
    subst e2
    rw [bools_rep r e1]
    rfl
theorem ints_rep {K : PySem.W.Frag} {F : Hp} : ∀ {vs : List V} {ds : List D} {bs : List Int}, Reps K F vs ds → intsD ds = some bs → vs = bs.map V.int
  | _, _, _, .nil, e => by cases e; rfl
  | _, _, bs, .cons (d := d) h r, e => by
    cases h <;> first | cases e | skip
    obtain ⟨b', e1, e2⟩ := Option.map_eq_some_iff.mp e
    subst e2
    rw [ints_rep r e1]
    rfl
theorem maxL_spec : ∀ (r : List Int) (m : Int), (maxL r m = m ∨ maxL r m ∈ r) ∧ m ≤ maxL r m ∧ ∀ y ∈ r, y ≤ maxL r m
  | [], m => ⟨.inl rfl, Int.le_refl _, fun _ h => nomatch h⟩
  | x :: r, m => by
    have ih := maxL_spec r (if m < x then x else m)
    have e : maxL (x :: r) m = maxL r (if m < x then x else m) := rfl
    rw [e]
    obtain ⟨i1, i2, i3⟩ := ih
    by_cases h : m < x
    · rw [if_pos h] at i1 i2 i3 ⊢
      refine ⟨.inr ?_, by omega, fun y hy => ?_⟩
      · rcases i1 with i1 | i1
        · rw [i1]; exact List.mem_cons_self
        · exact List.mem_cons_of_mem _ i1
      · rcases List.mem_cons.mp hy with z | z
        · rw [z]; exact i2
        · exact i3 y z
    · rw [if_neg h] at i1 i2 i3 ⊢
      refine ⟨?_, i2, fun y hy => ?_⟩
      · rcases i1 with i1 | i1
        · exact .inl i1
        · exact .inr (List.mem_cons_of_mem _ i1)
      · rcases List.mem_cons.mp hy with z | z
        · rw [z]; omega
        · exact i3 y z
theorem putD_any {K : PySem.W.Frag} {F : Hp} {k : Str} : ∀ {kvs : List (Key × V)} {es : List (Str × D)}, RepK K F kvs es → (kvs.any fun kv => decide (kv.1 = Sum.inr k)) = es.any fun kv => decide (kv.1 = k)
  | _, _, .nil => rfl
  | _, _, .cons (x := x) h r => by
    rw [List.any_cons, List.any_cons, putD_any r]
    congr 1
    by_cases e : x = k
    · subst e; simp
    · have : ¬ (Sum.inr x : Key) = Sum.inr k := fun z => e (Sum.inr.inj z)
      simp [e]
theorem RepK.append {K : PySem.W.Frag} {F : Hp} : ∀ {a b : List (Key × V)} {x y : List (Str × D)}, RepK K F a x → RepK K F b y → RepK K F (a ++ b) (x ++ y)
  | _, _, _, _, .nil, s => s
  | _, _, _, _, .cons h r, s => .cons h (RepK.append r s)
theorem putD_map {K : PySem.W.Frag} {F : Hp} {k : Str} {v : V} {d : D} (hv : Rep K F v d) : ∀ {kvs : List (Key × V)} {es : List (Str × D)}, RepK K F kvs es → RepK K F (kvs.map fun kv => if kv.1 = Sum.inr k then (kv.1, v) else kv) (es.map fun kv => if kv.1 = k then (kv.1, d) else kv)
  | _, _, .nil => .nil
  | _, _, .cons (x := x) h r => by
    rw [List.map_cons, List.map_cons]
    by_cases e : x = k
    · subst e
      rw [if_pos rfl, if_pos rfl]
      exact .cons hv (putD_map hv r)
    · have e' : ¬ (Sum.inr x : Key) = Sum.inr k := fun z => e (Sum.inr.inj z)
      rw [if_neg e', if_neg e]
      exact .cons h (putD_map hv r)
theorem RepK.put {K : PySem.W.Frag} {F : Hp} {kvs : List (Key × V)} {es : List (Str × D)} {k : Str} {v : V} {d : D} (r : RepK K F kvs es) (hv : Rep K F v d) : RepK K F (putK kvs (.inr k) v) (putD es k d) := by
  unfold putK putD
  rw [putD_any r]
  split
  · exact putD_map hv r
  · exact r.append (.cons hv .nil)
theorem RepK.merge {K : PySem.W.Frag} {F : Hp} : ∀ {more : List (Key × V)} {ms : List (Str × D)} {kvs : List (Key × V)} {es : List (Str × D)}, RepK K F more ms → RepK K F kvs es → RepK K F (more.foldl (fun acc kv => putK acc kv.1 kv.2) kvs) (ms.foldl (fun acc kv => putD acc kv.1 kv.2) es)
  | _, _, _, _, .nil, s => s
  | _, _, _, _, .cons h r, s => by
    rw [List.foldl_cons, List.foldl_cons]
    exact RepK.merge r (s.put h)
theorem pairs_rep {K : PySem.W.Frag} {F H : Hp} (e : Sub F H) : ∀ {vs : List V} {ds : List D} {es : List (Str × D)}, Reps K F vs ds → pairsD ds = some es → ∃ (ps : List Addr) (kvs : List (Key × V)), vs = ps.map V.ref ∧ Paired (fun p kv => SqT K H p [kV kv.1, kv.2]) ps kvs ∧ RepK K F kvs es
  | _, _, _, .nil, h => by cases h; exact ⟨[], [], rfl, .nil, .nil⟩
  | _, _, es, .cons (d := d) h r, q => by
    unfold pairsD at q
    split at q
    · rename_i heq; cases heq
    · rename_i heq
      cases heq
      obtain ⟨es', e1, e2⟩ := Option.map_eq_some_iff.mp q
      subst e2
      obtain ⟨ps, kvs, h1, h2, h3⟩ := pairs_rep e r e1
      cases h with
      | tup hs hp hr =>
        cases hr with
        | cons ha ht =>
          cases ht with
          | cons hb hn =>
            cases hn
            cases ha
            exact ⟨_ :: ps, (.inr _, _) :: kvs, by rw [h1]; rfl, .cons (sqT_sub e hs) h2, .cons hb h3⟩
    · cases q
theorem Fin.dct {Y : Sys} {c : Cf Y} {K : PySem.W.Frag} {es : List (Str × D)} {kvs : List (Key × V)} {Q : VK} (q : Fin K c .t (.dct es) Q) (ok : Ok c) (r : RepK K c.F kvs es) : ∀ p, c.H p = none → Q (.ref p) (upd c.H p (.dK kvs)) := fun p hp =>
  q (.ref p) ⟨c.F, upd c.H p (.dK kvs), c.s, c.g⟩ rfl (Step.own ok hp _) (ok.own hp _) ⟨p, rfl, ⟨⟨kvs, upd_same, r⟩, ok.fr hp, fun z => ok.has p z hp⟩, hp⟩
theorem ins_perm (x : D) : ∀ l, (insD x l).Perm (x :: l)
  | [] => .refl _
  | y :: r => by
    unfold insD
    split
    · exact .refl _
    · exact ((ins_perm x r).cons y).trans (.swap x y r)
theorem leD_total : PySem.W.TotalLe leD := PySem.W.sortLe_total (PyProof.Rows.listOrd PyProof.Rows.itemOrd) false fun b : D => PySem.W.keyToks b.py
theorem ins_sorted (x : D) : ∀ l, l.Pairwise (fun a b => leD a b = true) → (insD x l).Pairwise (fun a b => leD a b = true)
  | [], _ => List.pairwise_singleton _ _
  | y :: r, h => by
    have hc := List.pairwise_cons.mp h
    unfold insD
    split
    · rename_i hl
      refine List.pairwise_cons.mpr ⟨fun z hz => ?_, h⟩
      rcases List.mem_cons.mp hz with e | e
      · rw [e]; exact hl
      · exact leD_total.1 _ _ _ hl (hc.1 z e)
    · rename_i hl
      refine List.pairwise_cons.mpr ⟨fun z hz => ?_, ins_sorted x r hc.2⟩
      rcases List.mem_cons.mp ((ins_perm x r).mem_iff.mp hz) with e | e
      · rw [e]
        have := leD_total.2 x y
        rcases this with t | t
        · exact absurd t hl
        · exact t
      · exact hc.1 z e
theorem sort_sorted : ∀ l, (sortD l).Pairwise (fun a b => leD a b = true)
  | [] => .nil
  | x :: r => ins_sorted x _ (sort_sorted r)
theorem ins_stable (c x : D) : ∀ l, (insD x l).filter (PySem.W.sameRank leD c) = (x :: l).filter (PySem.W.sameRank leD c)
  | [] => rfl
  | y :: r => by
    unfold insD
    split
    · rfl
    · rename_i hl
      have ih := ins_stable c x r
      rw [List.filter_cons, ih]
      cases hx : PySem.W.sameRank leD c x <;> cases hy : PySem.W.sameRank leD c y <;> simp [List.filter_cons, hx, hy]
      exfalso
      unfold PySem.W.sameRank at hx hy
      rw [Bool.and_eq_true] at hx hy
      exact hl (leD_total.1 _ _ _ hx.2 hy.1)
theorem sort_stab (c : D) : ∀ l, (sortD l).filter (PySem.W.sameRank leD c) = l.filter (PySem.W.sameRank leD c)
  | [] => rfl
  | x :: r => by
    show (insD x (sortD r)).filter _ = _
    rw [ins_stable c x (sortD r), List.filter_cons, List.filter_cons, sort_stab c r]
theorem sortD_eq (l : List D) : sortD l = l.mergeSort leD := PySem.W.sort_unique leD_total (sort_sorted l) fun c => sort_stab c l
theorem Reps.zip {K : PySem.W.Frag} {F : Hp} : ∀ {vs : List V} {ds : List D}, Reps K F vs ds → (vs.zip ds).map (·.1) = vs ∧ (vs.zip ds).map (·.2) = ds
  | _, _, .nil => ⟨rfl, rfl⟩
  | _, _, .cons h r => by
    obtain ⟨a, b⟩ := Reps.zip r
    exact ⟨by rw [List.zip_cons_cons, List.map_cons, a], by rw [List.zip_cons_cons, List.map_cons, b]⟩
theorem Reps.mem {K : PySem.W.Frag} {F : Hp} : ∀ {vs : List V} {ds : List D}, Reps K F vs ds → ∀ b ∈ vs.zip ds, Rep K F b.1 b.2
  | _, _, .nil, b, h => by cases h
  | _, _, .cons h r, b, hb => by
    rw [List.zip_cons_cons] at hb
    rcases List.mem_cons.mp hb with e | e
    · rw [e]; exact h
    · exact Reps.mem r b e
theorem Reps.of {K : PySem.W.Frag} {F : Hp} : ∀ {bs : List (V × D)}, (∀ b ∈ bs, Rep K F b.1 b.2) → Reps K F (bs.map (·.1)) (bs.map (·.2))
  | [], _ => .nil
  | b :: bs, h => .cons (h b List.mem_cons_self) (Reps.of fun z hz => h z (List.mem_cons_of_mem _ hz))
theorem sort_rep {K : PySem.W.Frag} {F : Hp} {vs : List V} {ds : List D} (r : Reps K F vs ds) : Reps K F (((vs.zip ds).mergeSort (PySem.W.dataLe false fun b : V × D => b.2.py)).map (·.1)) (sortD ds) := by
  have e : sortD ds = ((vs.zip ds).mergeSort (PySem.W.dataLe false fun b : V × D => b.2.py)).map (·.2) := by
    have q := PySem.W.sort_maps (r := PySem.W.dataLe false fun b : V × D => b.2.py) (s := leD) (l := vs.zip ds) (fun b : V × D => b.2) (fun a _ b _ => rfl)
    rw [(Reps.zip r).2] at q
    rw [sortD_eq, ← q]
  rw [e]
  exact Reps.of fun b hb => Reps.mem r b (List.mem_mergeSort.mp hb)
theorem pys_map : ∀ ds : List D, pys ds = ds.map D.py
  | [] => rfl
  | d :: ds => by rw [List.map_cons, ← pys_map ds]; rfl
theorem shs_mem {n : Nat} : ∀ {ds : List D}, shs n ds = true → ∀ d ∈ ds, d.sh n = true
  | _ :: _, h, d, hd => by
    have h := Bool.and_eq_true_iff.mp h
    rcases List.mem_cons.mp hd with e | e
    · rw [e]; exact h.1
    · exact shs_mem h.2 d e
theorem sortOk_all {ds : List D} (h : sortOk ds = true) : shs 59 ds = true ∧ PySem.W.AllAlike (ds.map D.py) ∧ PySem.W.Sortable (ds.map D.py) := by
  unfold sortOk at h
  rw [Bool.and_eq_true, Bool.and_eq_true, Bool.or_eq_true] at h
  obtain ⟨⟨h1, h2⟩, h3⟩ := h
  refine ⟨h1, fun d hd d' hd' => ?_, ?_⟩
  · obtain ⟨x, hx, rfl⟩ := List.mem_map.mp hd
    obtain ⟨y, hy, rfl⟩ := List.mem_map.mp hd'
    exact List.all_eq_true.mp (List.all_eq_true.mp h2 x hx) y hy
  · rcases h3 with h3 | h3
    · refine .inl fun d hd => ?_
      obtain ⟨x, hx, rfl⟩ := List.mem_map.mp hd
      have := List.all_eq_true.mp h3 x hx
      unfold tup1 at this
      split at this
      · exact ⟨_, _, rfl⟩
      · cases this
    · refine .inr fun d hd => ?_
      obtain ⟨x, hx, rfl⟩ := List.mem_map.mp hd
      have := List.all_eq_true.mp h3 x hx
      have hsx := shs_mem h1 x hx
      cases x with
      | non => cases this
      | tup _ => cases this
      | dct _ => rw [sh_dct] at hsx; cases hsx
      | adr _ => rw [sh_adr] at hsx; cases hsx
      | scr _ => rw [sh_scr] at hsx; cases hsx
      | exn _ => rw [sh_exn] at hsx; cases hsx
      | bl _ => exact ⟨fun z => (nomatch z), fun _ z => (nomatch z)⟩
      | int _ => exact ⟨fun z => (nomatch z), fun _ z => (nomatch z)⟩
      | str _ => exact ⟨fun z => (nomatch z), fun _ z => (nomatch z)⟩
      | lst _ => exact ⟨fun z => (nomatch z), fun _ z => (nomatch z)⟩
theorem b1_use {Y : Sys} {c : Cf Y} {K : PySem.W.Frag} {H1 : Hp} {k1 k : K3} {x : V} {a d : D} {f : B1} {Q : VK} (ok : Ok c) (hx : Is K H1 c k1 x a) (e : b1D f a = some (k, d)) (q : Fin K c k d Q) : r1 K f [x] c.H Q := by
  unfold b1D at e
  split at e
  · cases e
    obtain ⟨p, vs, rfl, h1, r⟩ := hx.lst ok
    refine ⟨_, _, rfl, .inl ⟨vs, .inl (.inl h1), rfl⟩, ?_⟩
    rw [r.length]
    exact q.here ok (.int _)
  · cases e
    obtain ⟨p, vs, rfl, h1, _, r⟩ := hx.tup ok
    refine ⟨_, _, rfl, .inr ⟨vs, h1, rfl⟩, ?_⟩
    rw [r.length]
    exact q.here ok (.int _)
  · split at e
    · rename_i hl
      cases e
      rw [hx.str]
      exact ⟨_, _, rfl, ⟨szM hl, rfl⟩, q.here ok (.int _)⟩
    · cases e
  · cases e
    exact ⟨_, by rw [hx.int], q.here ok (.int _)⟩
  · cases e
    exact .inl ⟨_, by rw [hx.int], q.here ok (.int _)⟩
  · cases e
    exact .inr ⟨_, by rw [hx.bl], q.here ok (.int _)⟩
  · cases e
    obtain ⟨p, vs, rfl, h1, r⟩ := hx.lst ok
    exact ⟨p, vs, rfl, .inl ⟨.inl (.inl h1), q.tup ok r⟩⟩
  · cases e
    obtain ⟨p, vs, rfl, h1, h1', r⟩ := hx.tup ok
    exact ⟨p, vs, rfl, .inr ⟨h1, q.here ok (.tup h1'.1 h1'.2 r)⟩⟩
  · cases e
    obtain ⟨p, vs, rfl, h1, r⟩ := hx.lst ok
    exact ⟨p, vs, rfl, .inl (.inl (.inl h1)), q.lst ok r⟩
  · cases e
    obtain ⟨p, vs, rfl, h1, h1', r⟩ := hx.tup ok
    exact ⟨p, vs, rfl, .inr h1, q.lst ok r⟩
  · obtain ⟨bs, e1, e2⟩ := Option.map_eq_some_iff.mp e
    cases e2
    obtain ⟨p, vs, rfl, h1, r⟩ := hx.lst ok
    have e3 := bools_rep r e1
    subst e3
    exact ⟨p, bs, rfl, .inl (.inl h1), q.here ok (.bl _)⟩
  · obtain ⟨bs, e1, e2⟩ := Option.map_eq_some_iff.mp e
    cases e2
    obtain ⟨p, vs, rfl, h1, r⟩ := hx.lst ok
    have e3 := bools_rep r e1
    subst e3
    exact ⟨p, bs, rfl, .inl (.inl h1), q.here ok (.bl _)⟩
  · obtain ⟨es, e1, e2⟩ := Option.map_eq_some_iff.mp e
    cases e2
    obtain ⟨p, vs, rfl, h1, r⟩ := hx.lst ok
    obtain ⟨ps, kvs, rfl, h2, h3⟩ := pairs_rep ok.sub r e1
    exact ⟨p, ps, kvs, rfl, .inl (.inl (.inl h1)), h2, q.dct ok (h3.merge .nil)⟩
  · obtain ⟨es, e1, e2⟩ := Option.map_eq_some_iff.mp e
    cases e2
    obtain ⟨p, vs, rfl, h1, h1', r⟩ := hx.tup ok
    obtain ⟨ps, kvs, rfl, h2, h3⟩ := pairs_rep ok.sub r e1
    exact ⟨p, ps, kvs, rfl, .inr ⟨h1, h1'.2.sub ok.sub⟩, h2, q.dct ok (h3.merge .nil)⟩
  · split at e
    · rename_i ds hs
      cases e
      obtain ⟨p, vs, rfl, h1, r⟩ := hx.lst ok
      obtain ⟨s1, s2, s3⟩ := sortOk_all hs
      obtain ⟨z1, z2⟩ := Reps.zip r
      have z3 : (vs.zip ds).map (fun b => b.2.py) = ds.map D.py := by
        rw [← z2, List.map_map, z2]
        rfl
      refine .inl ⟨p, vs.zip ds, rfl, by rw [z1]; exact .inl (.inl h1), ?_, by rw [z3]; exact s2, by rw [z3]; exact s3, fun b hb => ?_, q.lst ok (sort_rep r)⟩
      · rw [z1, z3, ← pys_map]
        exact pys_dp ok.sub r s1
      · have hm : b.2 ∈ ds := by rw [← z2]; exact List.mem_map.mpr ⟨b, hb, rfl⟩
        exact Nat.le_trans (py_sh 59 b.2 (shs_mem s1 _ hm)).2 (by decide)
    · cases e
  · split at e
    · rename_i ds hs
      cases e
      obtain ⟨p, vs, rfl, h1, _, r⟩ := hx.tup ok
      obtain ⟨s1, s2, s3⟩ := sortOk_all hs
      obtain ⟨z1, z2⟩ := Reps.zip r
      have z3 : (vs.zip ds).map (fun b => b.2.py) = ds.map D.py := by
        rw [← z2, List.map_map, z2]
        rfl
      refine .inr ⟨p, vs.zip ds, rfl, by rw [z1]; exact h1, ?_, by rw [z3]; exact s2, by rw [z3]; exact s3, fun b hb => ?_, q.lst ok (sort_rep r)⟩
      · rw [z1, z3, ← pys_map]
        exact pys_dp ok.sub r s1
      · have hm : b.2 ∈ ds := by rw [← z2]; exact List.mem_map.mpr ⟨b, hb, rfl⟩
        exact Nat.le_trans (py_sh 59 b.2 (shs_mem s1 _ hm)).2 (by decide)
    · cases e
  · split at e
    · rename_i ms m r' hi
      cases e
      obtain ⟨p, vs, rfl, h1, r⟩ := hx.lst ok
      have e3 := ints_rep r hi
      subst e3
      obtain ⟨s1, s2, s3⟩ := maxL_spec r' m
      refine ⟨p, _, rfl, .inl (.inl h1), Nat.succ_pos _, fun M hM hmax => ?_⟩
      have : M = maxL r' m := by
        have l1 : maxL r' m ≤ M := by
          rcases s1 with s1 | s1
          · rw [s1]; exact hmax m List.mem_cons_self
          · exact hmax _ (List.mem_cons_of_mem _ s1)
        have l2 : M ≤ maxL r' m := by
          rcases List.mem_cons.mp hM with z | z
          · rw [z]; exact s2
          · exact s3 M z
        omega
      rw [this]
      exact q.here ok (.int _)
    · cases e
  · cases e
def nmM : M1 → Str
  | .sindex => "index" | .lindex => "index" | .lcount => "count" | .sjoin => "join" | .sfind => "find"
def tyM : M1 → String
  | .sindex => "str" | .lindex => "list" | .lcount => "list" | .sjoin => "str" | .sfind => "str"
def idM : M1 → String
  | .sindex => "str.index" | .lindex => "list.index" | .lcount => "list.count" | .sjoin => "str.join" | .sfind => "str.find"
def rM (K : PySem.W.Frag) : M1 → V → List V → Hp → VK → Prop
  | .sindex => fun x xs H Q => ∃ a b i rest, x = .str a ∧ xs = [.str b] ∧ Builtin.Str.occurrences a b 0 a.length 1 = i :: rest ∧ Q (.int (i : Nat)) H
  | .lindex => rIndexD K
  | .lcount => rCntD K
  | .sjoin => fun x xs H Q => ∃ a p, ∃ ys : List Str, x = .str a ∧ xs = [.ref p] ∧ (SqL K H p (ys.map V.str) ∨ SqT K H p (ys.map V.str)) ∧ (ys.map (·.length)).sum + ys.length * a.length ≤ 16777216 ∧ Q (.str (Txt.join a ys)) H
  | .sfind => fun x xs H Q => ∃ a b, x = .str a ∧ xs = [.str b] ∧ Q (.int (Txt.find a b)) H
theorem strs_rep {K : PySem.W.Frag} {F : Hp} : ∀ {vs : List V} {ds : List D} {ys : List Str}, Reps K F vs ds → strsD ds = some ys → vs = ys.map V.str
  | _, [], _, .nil, e => by cases e; rfl
  | _, d :: ds, ys, .cons h r, e => by
    cases d <;> first | cases e | skip
    obtain ⟨zs, e1, e2⟩ := Option.map_eq_some_iff.mp (show (strsD ds).map _ = some ys from e)
    subst e2
    cases h
    rw [List.map_cons, strs_rep r e1]
theorem mt_M {X : Cx} {n : Nat} (hr : Room n X.A) (f : M1) : MtR X (idM f) (rM X.K f) := by
  cases f with
  | sindex => exact mt_sindex
  | lindex => exact mt_indexD (hr65 hr)
  | lcount => exact mt_countD (hr65 hr)
  | sjoin => exact mt_join
  | sfind => exact mt_find
theorem rcv_ty {Y : Sys} {c : Cf Y} {K : PySem.W.Frag} {H1 : Hp} {k1 : K3} {x : V} {a : D} {f : M1} (ok : Ok c) (hx : Is K H1 c k1 x a) (h : rcvD f a = true) : tyV K (tyM f) x c.H := by
  unfold rcvD at h
  split at h
  · rw [hx.str]; exact rfl
  · obtain ⟨p, vs, rfl, h1, r⟩ := hx.lst ok
    exact .inl ⟨rfl, vs, .inl (.inl h1)⟩
  · obtain ⟨p, vs, rfl, h1, r⟩ := hx.lst ok
    exact .inl ⟨rfl, vs, .inl (.inl h1)⟩
  · rw [hx.str]; exact rfl
  · rw [hx.str]; exact rfl
  · cases h
theorem countP_pys {e : D} (he : e.sh 60 = true) : ∀ (ds : List D), shs 59 ds = true → ((pys ds).countP fun z => PyData.eqv z e.py) = ds.countP fun y => deq y e
  | [], _ => rfl
  | d :: ds, h => by
    have h := Bool.and_eq_true_iff.mp h
    show (d.py :: pys ds).countP _ = _
    rw [List.countP_cons, List.countP_cons, countP_pys he ds h.2, py_eqv 59 60 d e h.1 he]
theorem pys_get {i : Nat} {ds : List D} : (pys ds)[i]? = ds[i]?.map D.py := by rw [pys_map, List.getElem?_map]
theorem m1_use {Y : Sys} {c : Cf Y} {K : PySem.W.Frag} {H1 H2 : Hp} {k1 k2 k : K3} {x y : V} {a b d : D} {f : M1} {Q : VK} (ok : Ok c) (hx : Is K H1 c k1 x a) (hy : Is K H2 c k2 y b) (e : m1D f a b = some (k, d)) (q : Fin K c k d Q) : rM K f x [y] c.H Q := by
  unfold m1D at e
  split at e
  · split at e
    · rename_i i rest ho
      cases e
      exact ⟨_, _, _, _, hx.str, by rw [hy.str], ho, q.here ok (.int _)⟩
    · cases e
  · split at e
    · rename_i ds hs
      have hs := Bool.and_eq_true_iff.mp hs
      obtain ⟨j, e1, e2⟩ := Option.map_eq_some_iff.mp e
      cases e2
      obtain ⟨g1, g2, g3⟩ := List.findIdx?_eq_some_iff_getElem.mp e1
      have hd := hx.dp ok (show (D.lst ds).sh 60 = true from hs.2)
      obtain ⟨p, vs, rfl, h1, r⟩ := hx.lst ok
      refine ⟨p, y, _, pys ds, j, (ds[j]).py, rfl, rfl, hd, hy.dp ok hs.1, shaped_lst hs.2, shaped_of hs.1, ?_, ?_, ?_, q.here ok (.int _)⟩
      · rw [pys_get, List.getElem?_eq_getElem g1]; rfl
      · rw [py_eqv 59 60 _ _ (shs_mem hs.2 _ (List.getElem_mem g1)) hs.1]; exact g2
      · intro m z hm hz
        have hml : m < ds.length := by omega
        rw [pys_get, List.getElem?_eq_getElem hml] at hz
        cases hz
        rw [py_eqv 59 60 _ _ (shs_mem hs.2 _ (List.getElem_mem hml)) hs.1]
        have := g3 m hm
        simpa using this
    · cases e
  · split at e
    · rename_i ds hs
      have hs := Bool.and_eq_true_iff.mp hs
      cases e
      have hd := hx.dp ok (show (D.lst ds).sh 60 = true from hs.2)
      obtain ⟨p, vs, rfl, h1, r⟩ := hx.lst ok
      refine ⟨p, vs, y, _, pys ds, rfl, rfl, .inl (.inl h1), pys_dp ok.sub r hs.2, hy.dp ok hs.1, shaped_lst hs.2, shaped_of hs.1, ?_⟩
      rw [countP_pys hs.1 ds hs.2]
      exact q.here ok (.int _)
    · cases e
  · obtain ⟨ys, e1, e2⟩ := Option.bind_eq_some_iff.mp e
    split at e2
    · rename_i hz
      cases e2
      obtain ⟨p, vs, rfl, h1, r⟩ := hy.lst ok
      refine ⟨_, p, ys, hx.str, rfl, .inl (.inl (.inl ?_)), Nat.le_trans (of_decide_eq_true hz) (by decide), q.here ok (.str _)⟩
      rw [← strs_rep r e1]
      exact h1
    · cases e2
  · cases e
    exact ⟨_, _, hx.str, by rw [hy.str], q.here ok (.int _)⟩
  · cases e
def nmT : Ty → String
  | .int => "int" | .bool => "bool" | .tuple => "tuple" | .str => "str" | .list => "list"
theorem isi_use {Y : Sys} {c : Cf Y} {K : PySem.W.Frag} {H1 : Hp} {k1 : K3} {x : V} {a : D} {t : Ty} {b : Bool} {Q : VK} (ok : Ok c) (hx : Is K H1 c k1 x a) (e : isiD t a = some b) (q : Q (.bl b) c.H) : rIsi K [x, .ty (nmT t)] c.H Q := by
  have go : ∀ {s : String}, TyX K c.H x (.type s) → kitB s (nmT t) = some b → rIsi K [x, .ty (nmT t)] c.H Q := fun h1 h2 => ⟨x, _, _, _, b, rfl, .ty _, h1, kit_ty h2, q⟩
  cases a with
  | non =>
    rw [hx.non] at go ⊢
    refine go (.base .non) ?_
    cases t <;> (cases e; first | (show _ = some true; decide +kernel) | (show _ = some false; decide +kernel))
  | bl v =>
    rw [hx.bl] at go ⊢
    refine go (.base (.bl _)) ?_
    cases t <;> (cases e; first | (show _ = some true; decide +kernel) | (show _ = some false; decide +kernel))
  | int v =>
    rw [hx.int] at go ⊢
    refine go (.base (.int _)) ?_
    cases t <;> (cases e; first | (show _ = some true; decide +kernel) | (show _ = some false; decide +kernel))
  | str v =>
    rw [hx.str] at go ⊢
    refine go (.base (.str _)) ?_
    cases t <;> (cases e; first | (show _ = some true; decide +kernel) | (show _ = some false; decide +kernel))
  | tup ds =>
    obtain ⟨p, vs, rfl, h1, h1', r⟩ := hx.tup ok
    refine go (s := "tuple") ?_ ?_
    · rcases h1 with (h | ⟨o, h⟩) | ⟨o, its, n, hk, hc, _⟩
      · exact .base (.tup h)
      · exact .fTuple h
      · exact .kTuple hk hc
    · cases t <;> (cases e; first | (show _ = some true; decide +kernel) | (show _ = some false; decide +kernel))
  | lst ds =>
    obtain ⟨p, vs, rfl, h1, r⟩ := hx.lst ok
    refine go (.base (.lst h1)) ?_
    cases t <;> (cases e; first | (show _ = some true; decide +kernel) | (show _ = some false; decide +kernel))
  | dct _ => cases t <;> cases e
  | adr _ => cases t <;> cases e
  | scr _ => cases t <;> cases e
  | exn _ => cases t <;> cases e
theorem isl_use {Y : Sys} {c : Cf Y} {K : PySem.W.Frag} {H1 : Hp} {k1 : K3} {x : V} {a : D} {b : Bool} {Q : VK} {tp : Addr} (ok : Ok c) (hx : Is K H1 c k1 x a) (e : isiD .list a = some b) (ht : c.H tp = some (.tup [.ty "list", .ty "dict"])) (q : Q (.bl b) c.H) : rIsiT K [x, .ref tp] c.H Q := by
  have go : ∀ {s : String}, TyX K c.H x (.type s) → kitB s "list" = some b → kitB s "dict" = some false → rIsiT K [x, .ref tp] c.H Q := fun h1 h2 h3 =>
    ⟨x, tp, _, _, [.type "list", .type "dict"], b, rfl, ht, .cons (.ty _) (.cons (.ty _) .nil), h1, kitAny_cons (kit_ty h2) (fun hb => by
      subst hb
      exact kitAny_cons (kit_ty h3) (fun _ => kitAny_nil) (fun z => nomatch z)) (fun z => z), q⟩
  cases a with
  | non =>
    rw [hx.non] at go ⊢
    exact go (.base .non) (by cases e; show _ = some false; decide +kernel) (by decide +kernel)
  | bl v =>
    rw [hx.bl] at go ⊢
    exact go (.base (.bl _)) (by cases e; show _ = some false; decide +kernel) (by decide +kernel)
  | int v =>
    rw [hx.int] at go ⊢
    exact go (.base (.int _)) (by cases e; show _ = some false; decide +kernel) (by decide +kernel)
  | str v =>
    rw [hx.str] at go ⊢
    exact go (.base (.str _)) (by cases e; show _ = some false; decide +kernel) (by decide +kernel)
  | tup ds =>
    obtain ⟨p, vs, rfl, h1, h1', r⟩ := hx.tup ok
    refine go (s := "tuple") ?_ (by cases e; show _ = some false; decide +kernel) (by decide +kernel)
    rcases h1 with (h | ⟨o, h⟩) | ⟨o, its, n, hk, hc, _⟩
    · exact .base (.tup h)
    · exact .fTuple h
    · exact .kTuple hk hc
  | lst ds =>
    obtain ⟨p, vs, rfl, h1, r⟩ := hx.lst ok
    exact go (.base (.lst h1)) (by cases e; show _ = some true; decide +kernel) (by decide +kernel)
  | dct _ => cases e
  | adr _ => cases e
  | scr _ => cases e
  | exn _ => cases e
def iSeq (K : PySem.W.Frag) (tl : TE) : TI := fun σ H R => tl σ H fun x H1 => (∃ a, x = .ref a ∧ (∃ xs, SqL K H1 a xs) ∧ R (Itl K a) H1) ∨ (∃ a, x = .ref a ∧ (∃ xs, SqT K H1 a xs) ∧ R (Itt K a) H1) ∨ ∃ z, x = .str z ∧ R (Its z) H1
theorem pi_seq {X : Cx} {tg l : Expr} {tl : TE} (hl : PE X l tl) : PI X tg l (iSeq X.K tl) := by
  refine ⟨fun pins s σ H R I h => ?_⟩
  refine thn (hl.run pins s σ H _ I h) fun v s1 ⟨x, H1, I1, r1, q1⟩ => ?_
  rcases q1 with ⟨a, e, ⟨xs, hq⟩, q⟩ | ⟨a, e, ⟨xs, hq⟩, q⟩ | ⟨z, e, q⟩
  · subst e
    cases r1
    obtain ⟨its, rv, p, hz⟩ := I1.list hq
    refine wpAny_pyIter_list p.isList ?_
    refine ⟨s1.heap.objs.size, [s1.heap.objs.size], _, _, H1, rfl, I1.kept (t' := s1.toks) fun b o e => Heap.get?_push_of_some _ e, turn_list a _, ⟨_, Heap.get?_push_size _ rfl, rfl, rfl⟩, fun b hb => ?_, q⟩
    have e : b = s1.heap.objs.size := by simpa using hb
    subst e
    exact I1.fpOk (Nat.le_refl _) (I1.hok.fresh (Nat.le_refl _))
  · subst e
    cases r1
    obtain ⟨its, rv, p, hz⟩ := I1.tuple hq
    refine wpAny_pyIter_tuple (show s1.heap.IsTuple a its.toArray from p) ?_
    refine ⟨s1.heap.objs.size, [s1.heap.objs.size], _, _, H1, rfl, I1.kept (t' := s1.toks) fun b o e => Heap.get?_push_of_some _ e, turn_tuple a _, ⟨_, Heap.get?_push_size _ rfl, rfl, rfl⟩, fun b hb => ?_, q⟩
    have e : b = s1.heap.objs.size := by simpa using hb
    subst e
    exact I1.fpOk (Nat.le_refl _) (I1.hok.fresh (Nat.le_refl _))
  · subst e
    obtain ⟨t, rfl⟩ := r1
    cases ha : z.cps.all (· < 128)
    · exact wpAny_pyIter_wide ha (pi_one (tk := s1.toks) I1 _ (turn_str _ z t "str_iterator" (.inr rfl)) ⟨_, Heap.get?_push_size _ rfl, rfl, rfl⟩ q)
    · exact wpAny_pyIter_ascii ha (pi_one (tk := s1.toks) I1 _ (turn_str _ z t "str_ascii_iterator" (.inl rfl)) ⟨_, Heap.get?_push_size _ rfl, rfl, rfl⟩ q)
end Mf
set_option Elab.async false
set_option linter.all false
set_option maxRecDepth 100000
set_option maxHeartbeats 1000000
namespace Mf
open PySem L2

section
variable {Y : Sys} (K : PySem.W.Frag) (mg : Str → Option Value) (W : WX)
def Post {α β : Type} (σ : L2.St) (c : Cf Y) (J : β → Cf Y → α → Prop) (Q : β → Hp → Prop) : Res Y.S α → Prop
  | .ok a s' => ∀ b (c' : Cf Y), c'.s = s' → Step c c' → Ok c' → J b c' a → Q b c'.H
  | .ex x s' => ∀ C (c' : Cf Y), mg x = some (.ref C) → c'.s = s' → Step c c' → Ok c' → W (.ref C) none σ c'.H
  | .er => False
def tR {α β : Type} (J : Cf Y → β → Cf Y → α → Prop) (f : List SV → Y.S → Res Y.S α) : L2.St → Hp → (β → Hp → Prop) → Prop :=
  fun σ H Q => ∃ (c : Cf Y) (H0 : Hp) (ρ : List SV), c.H = H ∧ Ok c ∧ Rel K H0 c σ ρ ∧ Post mg W σ c (J c) Q (f ρ c.s)
def JE (c : Cf Y) (v : V) (c' : Cf Y) (a : K3 × D) : Prop := Is K c.H c' a.1 v a.2
def JB (_ : Cf Y) (b : Bool) (_ : Cf Y) (a : Bool) : Prop := b = a
def JA (_ : Cf Y) (vs : List V) (c' : Cf Y) (ds : List D) : Prop := Reps K c'.F vs ds
def RepW (z : Bool) (F : Hp) (v : V) (d : D) : Prop := Rep K F v d ∨ (z = true ∧ ∃ a vs ds, v = .ref a ∧ d = .tup ds ∧ SqT K F a vs ∧ Reps K F vs ds)
def zipI {S : Type} : CI S → Bool
  | .zip _ _ => true
  | .enm _ => true
  | _ => false
def Gd (z : Bool) (J : It) (G : Cf Y → Prop) (ds : List D) : Prop :=
  ∀ c : Cf Y, G c → Ok c → ∀ i : Nat, (ds.length ≤ i → J.stop i c.H) ∧
    ∀ d, ds[i]? = some d → J.go i c.H ∧ ∀ x H', J.yld i c.H x H' → ∃ c' : Cf Y, c'.H = H' ∧ c'.s = c.s ∧ Step c c' ∧ Ok c' ∧ RepW K z c'.F x d
def JI (st z : Bool) (_ : Cf Y) (J : It) (c' : Cf Y) (ds : List D) : Prop := ∃ G : Cf Y → Prop, Gd K z J G ds ∧ ∀ c'', (if st = true then Sub c'.F c''.F else Step c' c'') → G c''
abbrev tE (e : CE Y.S) : TE := tR K mg W (JE K) (ev e)
abbrev tT (e : CE Y.S) : TT := tR K mg W JB (fun ρ s => (ev e ρ s).bind tru)
abbrev tA (es : CA Y.S) : TA := tR K mg W (JA K) (evA es)
abbrev tI (st : Bool) (it : CI Y.S) : TI := tR K mg W (JI K st (zipI it)) (evI st it)
end
section
variable {Y : Sys} {K : PySem.W.Frag} {mg : Str → Option Value} {W : WX} {α β γ δ : Type} {σ : L2.St} {c c' : Cf Y} {H0 : Hp} {ρ : List SV}
theorem Post.shift {J J' : β → Cf Y → α → Prop} {Q : β → Hp → Prop} {r : Res Y.S α} (h : Post mg W σ c J Q r) (t : Step c c') (ok : Ok c') (hJ : ∀ b c'' a, J' b c'' a → J b c'' a) : Post mg W σ c' J' Q r := by
  cases r with
  | ok a s' => exact fun b c'' e t' ok'' j => h b c'' e (t.trans ok t') ok'' (hJ b c'' a j)
  | ex x s' => exact fun C c'' m e t' ok'' => h C c'' m e (t.trans ok t') ok''
  | er => exact h
theorem JE.back (t : Step c c') (ok : Ok c') (v : V) (c'' : Cf Y) (a : K3 × D) (h : JE K c' v c'' a) : JE K c v c'' a := Is.back h fun _ z => t.back ok z
theorem Post.shiftE {Q : VK} {r : Res Y.S (K3 × D)} (h : Post mg W σ c (JE K c) Q r) (t : Step c c') (ok : Ok c') : Post mg W σ c' (JE K c') Q r := h.shift t ok (JE.back t ok)
theorem tR.bind {J : Cf Y → β → Cf Y → α → Prop} {f : List SV → Y.S → Res Y.S α} {J' : γ → Cf Y → δ → Prop} {Q' : γ → Hp → Prop} {R : α → Y.S → Res Y.S δ} {Qa : β → Hp → Prop}
    (ok : Ok c) (rel : Rel K H0 c σ ρ) (h : Post mg W σ c J' Q' ((f ρ c.s).bind R))
    (k : ∀ b (c' : Cf Y) a, f ρ c.s = .ok a c'.s → Step c c' → Ok c' → Rel K H0 c' σ ρ → J c b c' a → Post mg W σ c J' Q' (R a c'.s) → Qa b c'.H) : tR K mg W J f σ c.H Qa := by
  refine ⟨c, H0, ρ, rfl, ok, rel, ?_⟩
  cases e : f ρ c.s with
  | ok a s' =>
    rw [e] at h
    intro b c' es t ok' j
    subst es
    exact k b c' a e t ok' (rel.step t) j h
  | ex x s' => rw [e] at h; exact h
  | er => rw [e] at h; exact h
theorem Post.fin {J : β → Cf Y → α → Prop} {Q : β → Hp → Prop} {a : α} {b : β} (h : Post mg W σ c J Q (.ok a c.s)) (ok : Ok c) (j : J b c a) : Q b c.H := h b c rfl (Step.refl c) ok j
theorem Post.fi {Q : VK} {k : K3} {d : D} (h : Post mg W σ c (JE K c) Q (.ok (k, d) c.s))   : Mf.Fin K c k d Q := fun v c' e t ok i => h v c' e t ok i
theorem Post.lift {Q : VK} {o : Option (K3 × D)} (h : Post mg W σ c (JE K c) Q (liftO c.s o)) : ∃ k d, o = some (k, d) ∧ Mf.Fin K c k d Q := by
  cases o with
  | none => exact h.elim
  | some x => exact ⟨x.1, x.2, rfl, h.fi⟩
theorem Post.kd {Q : VK} {o : Option D} (h : Post mg W σ c (JE K c) Q (kd c.s o)) : ∃ d, o = some d ∧ Mf.Fin K c .v d Q := by
  cases o with
  | none => exact h.elim
  | some x => exact ⟨x, rfl, h.fi⟩
theorem Post.tru {J : β → Cf Y → α → Prop} {Q : β → Hp → Prop} {R : Bool → Y.S → Res Y.S α} {x : K3 × D} {s : Y.S} (h : Post mg W σ c J Q ((Mf.tru x s).bind R)) : ∃ b, x.2 = .bl b ∧ Post mg W σ c J Q (R b s) := by
  obtain ⟨k, d⟩ := x
  cases d with
  | bl b => exact ⟨b, rfl, h⟩
  | _ => exact h.elim
theorem Post.int {J : β → Cf Y → α → Prop} {Q : β → Hp → Prop} {R : Int → Y.S → Res Y.S α} {x : K3 × D} {s : Y.S} (h : Post mg W σ c J Q ((intOf x s).bind R)) : ∃ b, x.2 = .int b ∧ Post mg W σ c J Q (R b s) := by
  obtain ⟨k, d⟩ := x
  cases d with
  | int b => exact ⟨b, rfl, h⟩
  | _ => exact h.elim
theorem Post.dat {J : β → Cf Y → α → Prop} {Q : β → Hp → Prop} {R : D → Y.S → Res Y.S α} {x : K3 × D} {s : Y.S} (h : Post mg W σ c J Q ((Mf.dat x s).bind R)) : x.1 ≠ .o ∧ Post mg W σ c J Q (R x.2 s) := by
  obtain ⟨k, d⟩ := x
  cases k with
  | v => exact ⟨fun z => (nomatch z), h⟩
  | t => exact ⟨fun z => (nomatch z), h⟩
  | o => exact h.elim
theorem Post.stk {J : β → Cf Y → α → Prop} {Q : β → Hp → Prop} {st : Bool} {R : K3 × D → Y.S → Res Y.S α} {x : K3 × D} {s : Y.S} (h : Post mg W σ c J Q ((Mf.stk st x s).bind R)) : (st = true → x.1 ≠ .o) ∧ Post mg W σ c J Q (R x s) := by
  obtain ⟨k, d⟩ := x
  cases st with
  | false => exact ⟨fun z => (nomatch z), h⟩
  | true =>
    cases k with
    | v => exact ⟨fun _ z => (nomatch z), h⟩
    | t => exact ⟨fun _ z => (nomatch z), h⟩
    | o => exact h.elim
end
theorem _root_.L2.PE.weak {X : Cx} {e : Expr} {t t' : TE} (h : PE X e t) (k : ∀ σ H Q, t' σ H Q → t σ H Q) : PE X e t' := ⟨fun pins s σ H Q I q => h.run pins s σ H Q I (k σ H Q q)⟩
theorem _root_.L2.PT.weak {X : Cx} {e : Expr} {t t' : TT} (h : PT X e t) (k : ∀ σ H Q, t' σ H Q → t σ H Q) : PT X e t' := ⟨fun pins s σ H Q I q => h.run pins s σ H Q I (k σ H Q q)⟩
theorem _root_.L2.PW.weak {X : Cx} {e : Expr} {t t' : TT} (h : PW X e t) (k : ∀ σ H Q, t' σ H Q → t σ H Q) : PW X e t' := ⟨fun w pins s σ H Q I q => h.run w pins s σ H Q I (k σ H Q q)⟩
theorem _root_.L2.PA.weak {X : Cx} {es : List Expr} {t t' : TA} (h : PA X es t) (k : ∀ σ H Q, t' σ H Q → t σ H Q) : PA X es t' := ⟨fun pos pins s σ H Q I q => h.run pos pins s σ H Q I (k σ H Q q)⟩
theorem _root_.L2.PI.weak {X : Cx} {tg e : Expr} {t t' : TI} (h : PI X tg e t) (k : ∀ σ H Q, t' σ H Q → t σ H Q) : PI X tg e t' := ⟨fun pins s σ H Q I q => h.run pins s σ H Q I (k σ H Q q)⟩

def bltNames : List Str := ["len", "abs", "int", "tuple", "list", "all", "any", "max", "isinstance", "bool", "str", "range", "zip", "sorted", "set", "dict", "enumerate", "ValueError"]
def visB (sc : Scope) (x : Str) : Bool := (match sc.names.lookup x with | some .local => true | some .cell => true | some .free => true | _ => false) && !(x == ("__debug__" : Str)) && !(x == ("__classdict__" : Str))
def glB (sc : Scope) (x : Str) : Bool := (match sc.names.lookup x with | some .globalImplicit => true | _ => false) && !(x == ("__debug__" : Str)) && !(x == ("__name__" : Str))
def notStar : Expr → Bool
  | .Starred _ _ => false
  | _ => true
def notSet : Expr → Bool
  | .Set _ _ _ => false
  | _ => true
def notSlice : Expr → Bool
  | .Slice _ _ _ _ => false
  | _ => true
def notComp : Expr → Bool
  | .ListComp _ _ _ _ => false
  | .SetComp _ _ _ _ => false
  | .DictComp _ _ _ _ _ => false
  | _ => true
def isBO : Expr → Bool
  | .BoolOp _ _ _ => true
  | _ => false
def tstP : Expr → Bool
  | .Name _ _ => true
  | .Call _ _ _ _ => true
  | .Subscript _ _ _ => true
  | _ => false
def tstOk : Expr → Bool
  | .BoolOp _ _ _ => true
  | .Compare _ _ _ _ => true
  | .UnaryOp .Not _ _ => true
  | e => tstP e
def opEq : Bop → Operator → Bool
  | .add, .Add => true | .sub, .Sub => true | .mul, .Mult => true | .fdv, .FloorDiv => true | .mod, .Mod => true | _, _ => false
def cmpEq : Cop → CmpOp → Bool
  | .eq, .Eq => true | .ne, .NotEq => true | .lt, .Lt => true | .le, .LtE => true | .gt, .Gt => true | .ge, .GtE => true | .isin, .In => true | .notin, .NotIn => true | .is, .Is => true | .isnot, .IsNot => true | _, _ => false
def conEq : D → Const → Bool
  | .int i, .int j => decide (i = j)
  | .str x, .str y => x == y
  | .bl a, .bool b => a == b
  | .non, .none => true
  | _, _ => false
def lenTg : Tg → Nat
  | .cons _ r => lenTg r + 1
  | _ => 0
def slots : Tg → List Nat
  | .nm i => [i]
  | .nil => []
  | .cons t r => slots t ++ slots r
def chkTs (N : List Str) (sc : Scope) (fns : Str → Bool) : Tg → List Expr → Bool
  | .nil, [] => true
  | .cons (.nm i) r, .Name x _ :: es => (N[i]? == some x) && (match sc.names.lookup x with | some .local => true | some .cell => fns x | _ => false) && chkTs N sc fns r es
  | .cons (.cons t' r') r, .Tuple es' _ _ :: es => chkTs N sc fns (.cons t' r') es' && chkTs N sc fns r es
  | _, _ => false
def chkT (N : List Str) (sc : Scope) (fns : Str → Bool) (t : Tg) (e : Expr) : Bool := chkTs N sc fns (.cons t .nil) [e]
def rcvE : Expr → Bool
  | .Name _ _ => true
  | .Constant _ _ _ => true
  | _ => false
def nmE : Expr → Bool
  | .Name _ _ => true
  | _ => false
def sesF : List Str := ["current", "earlier", "done", "undone"]
def isTupE : Expr → Bool
  | .Tuple _ _ _ => true
  | _ => false
def isExn : D → Bool
  | .exn _ => true
  | _ => false
def isDct : D → Bool
  | .dct _ => true
  | _ => false
def chkD : List (Str × Str) → List (Option Expr) → List Expr → Bool
  | [], [], [] => true
  | (k, v) :: t, some (.Constant (.str x) _ _) :: ks, .Constant (.str y) _ _ :: vs => (k == x) && (v == y) && chkD t ks vs
  | _, _, _ => false
def okX : Option Str → Bool
  | none => true
  | some y => excNames.contains y
def nmX : Option Str → Str
  | none => "ValueError"
  | some y => y
mutual
def chkE {S : Type} (N : List Str) : Scope → CE S → Expr → Bool
  | sc, .var i, e0 => match e0 with
    | .Name x _ => (N[i]? == some x) && visB sc x
    | _ => false
  | _, .con d, e0 => match e0 with
    | .Constant k _ _ => conEq d k
    | _ => false
  | sc, .glb x d, e0 => match e0 with
    | .Name y _ => (y == x) && glB sc y && !isExn d && !isDct d
    | _ => false
  | sc, .tup es, e0 => match e0 with
    | .Tuple xs _ _ => chkA N sc es xs
    | _ => false
  | sc, .lst es, e0 => match e0 with
    | .List xs _ => chkA N sc es xs
    | _ => false
  | sc, .bin o a b, e0 => match e0 with
    | .BinOp a' o' b' _ => opEq o o' && chkE N sc a a' && chkE N sc b b'
    | _ => false
  | sc, .neg a, e0 => match e0 with
    | .UnaryOp .USub a' _ => chkE N sc a a'
    | _ => false
  | sc, .not a, e0 => match e0 with
    | .UnaryOp .Not a' _ => chkE N sc a a' && tstOk a'
    | _ => false
  | sc, .cmp o a b, e0 => match e0 with
    | .Compare a' [o'] [b'] _ => cmpEq o o' && notSet b' && chkE N sc a a' && chkE N sc b b'
    | _ => false
  | sc, .chn o p a b c, e0 => match e0 with
    | .Compare a' [o', p'] [b', c'] _ => cmpEq o o' && cmpEq p p' && notSet c' && chkE N sc a a' && chkE N sc b b' && chkE N sc c c'
    | _ => false
  | sc, .and a b, e0 => match e0 with
    | .BoolOp .And (a' :: b' :: r) pos => tstOk a' && chkE N sc a a' && chkE N sc b (.BoolOp .And (b' :: r) pos)
    | _ => false
  | sc, .or a b, e0 => match e0 with
    | .BoolOp .Or (a' :: b' :: r) pos => tstOk a' && chkE N sc a a' && chkE N sc b (.BoolOp .Or (b' :: r) pos)
    | _ => false
  | sc, .one a, e0 => match e0 with
    | .BoolOp _ [a'] _ => tstOk a' && chkE N sc a a'
    | _ => false
  | sc, .ife t a b, e0 => match e0 with
    | .IfExp t' a' b' _ => tstOk t' && chkE N sc t t' && chkE N sc a a' && chkE N sc b b'
    | _ => false
  | sc, .ix a i, e0 => match e0 with
    | .Subscript a' i' _ => notSlice i' && chkE N sc a a' && chkE N sc i i'
    | _ => false
  | sc, .slL a lo, e0 => match e0 with
    | .Subscript a' (.Slice (some lo') none none _) _ => chkE N sc a a' && chkE N sc lo lo'
    | _ => false
  | sc, .slH a hi, e0 => match e0 with
    | .Subscript a' (.Slice none (some hi') none _) _ => chkE N sc a a' && chkE N sc hi hi'
    | _ => false
  | sc, .slB a lo hi, e0 => match e0 with
    | .Subscript a' (.Slice (some lo') (some hi') none _) _ => chkE N sc a a' && chkE N sc lo lo' && chkE N sc hi hi'
    | _ => false
  | sc, .call x n _ es, e0 => match e0 with
    | .Call (.Name y _) xs [] _ => (y == x) && glB sc y && chkA N sc es xs && decide (n < 1000)
    | _ => false
  | sc, .b1 f e, e0 => match e0 with
    | .Call (.Name y _) [e'] [] _ => (y == nmB f) && glB sc y && notStar e' && chkE N sc e e'
    | _ => false
  | sc, .m1 f a b, e0 => match e0 with
    | .Call (.Attribute a' m apos) [b'] [] cpos => (m == nmM f) && rcvE a' && notStar b' && (apos.endLine == cpos.line) && chkE N sc a a' && chkE N sc b b'
    | _ => false
  | sc, .isi e t, e0 => match e0 with
    | .Call (.Name y _) [e', .Name z _] [] _ => (y == ("isinstance" : Str)) && glB sc y && (z == (Str.ofString (nmT t))) && glB sc z && notStar e' && chkE N sc e e'
    | _ => false
  | sc, .lc it tg ifs elt vs, e0 => match e0 with
    | .ListComp elt' [⟨tg', iter', ifs', 0⟩] scope _ =>
      chkI N sc it iter' tg' && notSet iter' && blkC N sc scope (vs.map fun i => (N.getD i "", i)) && (slots tg).all (fun i => vs.contains i) &&
      chkT N (relS scope sc) (fun x => scope.names.lookup x == some .cell) tg tg' && chkC N (relS scope sc) ifs ifs' && chkE N (relS scope sc) elt elt'
    | _ => false
  | sc, .rev e, e0 => match e0 with
    | .Subscript e' (.Slice none none (some (.UnaryOp .USub (.Constant (.int 1) _ _) _)) _) _ => chkE N sc e e'
    | _ => false
  | sc, .sset e, e0 => match e0 with
    | .Call (.Name y _) [.Call (.Name z _) [e'] [] _] [] _ => (y == ("sorted" : Str)) && glB sc y && (z == ("set" : Str)) && glB sc z && notStar e' && chkE N sc e e'
    | _ => false
  | sc, .isx e y, e0 => match e0 with
    | .Call (.Name w _) [e', .Name z _] [] _ => (w == ("isinstance" : Str)) && glB sc w && (z == nmX y) && glB sc z && okX y && notStar e' && chkE N sc e e'
    | _ => false
  | sc, .lrng e, e0 => match e0 with
    | .Call (.Name y _) [.Call (.Name z _) [e'] [] _] [] _ => (y == ("list" : Str)) && glB sc y && (z == ("range" : Str)) && glB sc z && notStar e' && chkE N sc e e'
    | _ => false
  | sc, .lc2 it tg it1 tg1 elt vs vs1, e0 => match e0 with
    | .ListComp elt' [⟨tg', iter', [], 0⟩, ⟨tg1', iter1', [], 0⟩] scope _ =>
      chkI N sc it iter' tg' && notSet iter' && blkC N sc scope (vs.map fun i => (N.getD i "", i)) && (slots tg).all (fun i => vs.contains i) && chkT N (relS scope sc) (fun x => scope.names.lookup x == some .cell) tg tg' &&
      (chkI N (relS scope sc) it1 iter1' tg1' && notSet iter1' && (slots tg1).all (fun i => vs1.contains i) && chkT N (relS scope sc) (fun x => scope.names.lookup x == some .cell) tg1 tg1' && vs1.all (fun i => vs.contains i) && chkE N (relS scope sc) elt elt')
    | _ => false
  | sc, .stx f e, e0 => match f with
    | true => match e0 with
      | .FormattedValue e' (-1) none _ => chkE N sc e e'
      | _ => false
    | false => match e0 with
      | .Call (.Name y _) [e'] [] _ => (y == ("str" : Str)) && glB sc y && notStar e' && chkE N sc e e'
      | _ => false
  | sc, .fst es, e0 => match e0 with
    | .JoinedStr (x :: y :: r) _ => chkA N sc es (x :: y :: r)
    | _ => false
  | sc, .dtb x _ k, e0 => match e0 with
    | .Subscript (.Name y _) k' _ => (y == x) && glB sc y && notSlice k' && chkE N sc k k'
    | _ => false
  | sc, .dgt x _ k d, e0 => match e0 with
    | .Call (.Attribute (.Name y _) m apos) [k', d'] [] cpos => (y == x) && glB sc y && (m == ("get" : Str)) && notStar k' && notStar d' && (apos.endLine == cpos.line) && chkE N sc k k' && chkE N sc d d'
    | _ => false
  | sc, .dlt t k, e0 => match e0 with
    | .Subscript (.Dict ks vs _) k' _ => chkD t ks vs && decide (0 < t.length) && decide (t.length ≤ 15) && notSlice k' && chkE N sc k k'
    | _ => false
  | sc, .lss e, e0 => match e0 with
    | .Call (.Name y _) [e'] [] _ => (y == ("list" : Str)) && glB sc y && notStar e' && chkE N sc e e'
    | _ => false
  | sc, .isl e, e0 => match e0 with
    | .Call (.Name w _) [e', .Tuple [.Name y _, .Name z _] _ _] [] _ => (w == ("isinstance" : Str)) && glB sc w && (y == ("list" : Str)) && glB sc y && (z == ("dict" : Str)) && glB sc z && notStar e' && chkE N sc e e'
    | _ => false
  | sc, .fld a f _, e0 => match e0 with
    | .Attribute a' f' _ => (f' == f) && nmE a' && chkE N sc a a'
    | _ => false
  | sc, .mcl a x _ _ _ es, e0 => match e0 with
    | .Call (.Attribute a' m apos) xs [] cpos => (m == x) && nmE a' && decide (xs.length < 29) && (apos.endLine == cpos.line) && chkE N sc a a' && chkA N sc es xs
    | _ => false
def chkA {S : Type} (N : List Str) : Scope → CA S → List Expr → Bool
  | _, .nil, [] => true
  | sc, .cons e es, x :: xs => notStar x && chkE N sc e x && chkA N sc es xs
  | _, _, _ => false
def chkC {S : Type} (N : List Str) : Scope → CA S → List Expr → Bool
  | _, .nil, [] => true
  | sc, .cons e .nil, [x] => tstOk x && chkE N sc e x
  | _, _, _ => false
def chkI {S : Type} (N : List Str) : Scope → CI S → Expr → Expr → Bool
  | sc, .seq e, x, _ => chkE N sc e x
  | sc, .rng e, x, _ => match x with
    | .Call (.Name y _) [x] [] _ => (y == ("range" : Str)) && glB sc y && notStar x && chkE N sc e x
    | _ => false
  | sc, .zip a b, x, tg => match x with
    | .Call (.Name y _) [x, z] [] _ => (y == ("zip" : Str)) && glB sc y && notStar x && notStar z && isTupE tg && chkE N sc a x && chkE N sc b z
    | _ => false
  | sc, .enm e, x, tg => match x with
    | .Call (.Name y _) [x] [] _ => (y == ("enumerate" : Str)) && glB sc y && notStar x && isTupE tg && chkE N sc e x
    | _ => false
end
mutual
def needE {S : Type} (P : Str → Nat → Sem S → Prop) (G : Str → D → Prop) : CE S → Prop
  | .glb x d => G x d
  | .tup es => needA P G es
  | .lst es => needA P G es
  | .bin _ a b => needE P G a ∧ needE P G b
  | .neg a => needE P G a
  | .not a => needE P G a
  | .cmp _ a b => needE P G a ∧ needE P G b
  | .chn _ _ a b c => needE P G a ∧ needE P G b ∧ needE P G c
  | .and a b => needE P G a ∧ needE P G b
  | .or a b => needE P G a ∧ needE P G b
  | .one a => needE P G a
  | .ife t a b => needE P G t ∧ needE P G a ∧ needE P G b
  | .ix a i => needE P G a ∧ needE P G i
  | .slL a i => needE P G a ∧ needE P G i
  | .slH a i => needE P G a ∧ needE P G i
  | .slB a i j => needE P G a ∧ needE P G i ∧ needE P G j
  | .call x n g es => P x n g ∧ needA P G es
  | .b1 _ e => needE P G e
  | .m1 _ a b => needE P G a ∧ needE P G b
  | .isi e _ => needE P G e
  | .lc it _ ifs elt _ => needI P G it ∧ needA P G ifs ∧ needE P G elt
  | .sset e => needE P G e
  | .rev e => needE P G e
  | .lrng e => needE P G e
  | .isx e y => G (nmX y) d_EXC ∧ needE P G e
  | .lc2 it _ it1 _ elt _ _ => needI P G it ∧ needI P G it1 ∧ needE P G elt
  | .stx _ e => needE P G e
  | .fst es => needA P G es
  | .dtb x t k => G x (.dct t) ∧ needE P G k
  | .dgt x t k d => G x (.dct t) ∧ needE P G k ∧ needE P G d
  | .dlt _ k => needE P G k
  | .lss e => needE P G e
  | .isl e => needE P G e
  | .fld a f g => P f 1000 g ∧ needE P G a
  | .mcl a x n ck g es => P "Session" 1001 ck ∧ P x (2000 + n) g ∧ needE P G a ∧ needA P G es
  | _ => True
def needA {S : Type} (P : Str → Nat → Sem S → Prop) (G : Str → D → Prop) : CA S → Prop
  | .nil => True
  | .cons e es => needE P G e ∧ needA P G es
def needI {S : Type} (P : Str → Nat → Sem S → Prop) (G : Str → D → Prop) : CI S → Prop
  | .seq e => needE P G e
  | .rng e => needE P G e
  | .zip a b => needE P G a ∧ needE P G b
  | .enm e => needE P G e
end
def spOf {Y : Sys} (K : PySem.W.Frag) (mg : Str → Option Value) (m : Nat) (g : Sem Y.S) : Sp := fun vs H Q E => ∃ (c : Cf Y) (ds : List D), c.H = H ∧ Ok c ∧ Reps K c.F vs ds ∧ vs.length = m ∧
  match g ds c.s with
  | .ok d s' => ∀ v (c' : Cf Y), c'.s = s' → Step c c' → Ok c' → Rep K c'.F v d → Q v c'.H
  | .ex x s' => ∀ C (c' : Cf Y), mg x = some (.ref C) → c'.s = s' → Step c c' → Ok c' → E (.ref C) none c'.H
  | .er => False
def HasF (P : Program) (w : World) (K : PySem.W.Frag) (mg : Str → Option Value) (base : Heap) (Y : Sys) (n : Nat) (x : Str) (m : Nat) (g : Sem Y.S) : Prop :=
  ∃ (f : Addr) (fd : FuncData) (ps : List Str), ps.length = m ∧ FnOk P w K mg base (L2.CX P w) n f fd ps (spOf (Y := Y) K mg m g) ∧ mg x = some (.ref f) ∧ PySem.W.keepIn K (.ref f) = true ∧ Binds K fd ps []
def FldOk (K : PySem.W.Frag) (Y : Sys) (x : Str) (g : Sem Y.S) : Prop := ∀ (c : Cf Y) (v : V) (d d' : D) (s' : Y.S), Ok c → Rep K c.F v d → g [d] c.s = .ok d' s' →
  ∃ a C dx fs u, v = .ref a ∧ c.H a = some (.ins C dx fs) ∧ Cls K C ∧ NoAttr K C x ∧ fs.lookup x = some u ∧ Rep K c.F u d'
def InsOk (K : PySem.W.Frag) (mg : Str → Option Value) (Y : Sys) (g : Sem Y.S) : Prop := ∃ C, mg "Session" = some (.ref C) ∧ Cls K C ∧ ∀ (c : Cf Y) (v : V) (d d' : D) (s' : Y.S), Ok c → Rep K c.F v d → g [d] c.s = .ok d' s' →
  ∃ a dx fs, v = .ref a ∧ c.H a = some (.ins C dx fs) ∧ ∀ y, sesF.contains y = false → fs.lookup y = none
def MethOk (P : Program) (w : World) (K : PySem.W.Frag) (mg : Str → Option Value) (base : Heap) (Y : Sys) (n : Nat) (x : Str) (m : Nat) (g : Sem Y.S) : Prop :=
  sesF.contains x = false ∧ ∃ (C f : Addr) (fd : FuncData) (ps : List Str), mg "Session" = some (.ref C) ∧ Meth K C x f ∧ ps.length = m ∧ FnOk P w K mg base (L2.CX P w) n f fd ps (spOf (Y := Y) K mg m g) ∧ Binds K fd ps []
structure Has (P : Program) (w : World) (K : PySem.W.Frag) (mg : Str → Option Value) (base : Heap) (Y : Sys) (n : Nat) (x : Str) (m : Nat) (g : Sem Y.S) : Prop where
  has : m < 1000 → HasF P w K mg base Y n x m g
  fld : m = 1000 → FldOk K Y x g
  ins : m = 1001 → InsOk K mg Y g
  meth : 2000 ≤ m → MethOk P w K mg base Y n x (m - 2000) g
theorem HasF.mk {P : Program} {w : World} {K : PySem.W.Frag} {mg : Str → Option Value} {base : Heap} {Y : Sys} {n : Nat} {x : Str} {m : Nat} {g : Sem Y.S} (h : HasF P w K mg base Y n x m g) (hm : m < 1000) : Has P w K mg base Y n x m g :=
  ⟨fun _ => h, fun e => by omega, fun e => by omega, fun e => by omega⟩
theorem FldOk.mk {P : Program} {w : World} {K : PySem.W.Frag} {mg : Str → Option Value} {base : Heap} {Y : Sys} {n : Nat} {x : Str} {g : Sem Y.S} (h : FldOk K Y x g) : Has P w K mg base Y n x 1000 g :=
  ⟨fun e => by omega, fun _ => h, fun e => by omega, fun e => by omega⟩
theorem InsOk.mk {P : Program} {w : World} {K : PySem.W.Frag} {mg : Str → Option Value} {base : Heap} {Y : Sys} {n : Nat} {x : Str} {g : Sem Y.S} (h : InsOk K mg Y g) : Has P w K mg base Y n x 1001 g :=
  ⟨fun e => by omega, fun e => by omega, fun _ => h, fun e => by omega⟩
theorem MethOk.mk {P : Program} {w : World} {K : PySem.W.Frag} {mg : Str → Option Value} {base : Heap} {Y : Sys} {n : Nat} {x : Str} {m : Nat} {g : Sem Y.S} (h : MethOk P w K mg base Y n x m g) : Has P w K mg base Y n x (2000 + m) g :=
  ⟨fun e => by omega, fun e => by omega, fun e => by omega, fun _ => by rw [Nat.add_sub_cancel_left]; exact h⟩
structure Exc1 (K : PySem.W.Frag) (mg : Str → Option Value) (x : Str) (C M : Addr) : Prop where
  ns : PySem.W.nsIn K mainGlobals x = some (some (.ref C))
  gm : mg x = some (.ref C)
  ec : ExcC K C
  nw : PySem.W.excIn K C HandSPX.veTail "ValueError.__new__" = true
  kp : PySem.W.keepIn K (.ref C) = true
  ty : PySem.W.typeIn K (.ref C) = some (.type "type")
  ve : PySem.W.kitOne K (.ref C) (.type "ValueError") = some true
  me : PySem.W.exmOne K (.ref C) (.ref M) = some true
  is : ∀ y ∈ excNames, ∀ C', PySem.W.nsIn K mainGlobals y = some (some (.ref C')) → PySem.W.kitOne K (.ref C) (.ref C') = some (x == y)
structure ExcK (K : PySem.W.Frag) (mg : Str → Option Value) : Prop where
  all : ∃ M, mg "MeasureError" = some (.ref M) ∧ ∀ x ∈ excNames, (mg x ≠ none ∨ PySem.W.nsIn K mainGlobals x ≠ some none) → ∃ C, Exc1 K mg x C M
def datP : D → PyData
  | .int i => .int i
  | .str x => .str x
  | .bl b => .bool b
  | _ => .none
def fl3 : D → Bool
  | .int _ => true
  | .str _ => true
  | .bl _ => true
  | .non => true
  | _ => false
def tabKB (K : PySem.W.Frag) (a : Addr) (t : List (Str × D)) : Bool := (t.all fun p => fl3 p.2) && PyProof.Rows.KTD.tabLook (PyProof.Rows.KTD.datLooks fun a => K.lookup a) (fun a => K.lookup a) a (t.map fun p => (p.1, PyProof.Rows.KTD.Dat.flat (datP p.2)))
def GlbV (K : PySem.W.Frag) (mg : Str → Option Value) (x : Str) : D → Prop
  | .dct t => ∃ a, mg x = some (.ref a) ∧ tabKB K a t = true
  | d => ∃ u v, mg x = some u ∧ RelV v u ∧ ∀ F, Rep K F v d
def Glb (K : PySem.W.Frag) (mg : Str → Option Value) (x : Str) (d : D) : Prop := (isExn d = true → ExcK K mg ∧ (excNames.contains x = true → mg x ≠ none)) ∧ (isExn d = false → GlbV K mg x d)
theorem Glb.exc {K : PySem.W.Frag} {mg : Str → Option Value} {x : Str} (g : Glb K mg x d_EXC) : ExcK K mg := (g.1 rfl).1
theorem Glb.pre {K : PySem.W.Frag} {mg : Str → Option Value} {x : Str} (g : Glb K mg x d_EXC) (h : excNames.contains x = true) : mg x ≠ none := (g.1 rfl).2 h
structure Cxt (X : Cx) (W : WX) (n : Nat) (N : List Str) (sc : Scope) : Prop where
  hN : X.N = N
  hs : X.env.scope = sc
  nd : N.Nodup
  calm : X.calm = true
  room : Room n X.A
  tk : Takes X W
  we : ∃ E : XK, W = fun cls d _ H => E cls d H
  blt : ∀ x ∈ bltNames, X.mg x = none
end Mf
set_option Elab.async false
set_option linter.all false
set_option maxRecDepth 100000
set_option maxHeartbeats 1000000
namespace Mf
open PySem L2

theorem visB_ok {sc : Scope} {x : Str} (h : visB sc x = true) : Vis sc x ∧ (x == ("__debug__" : Str)) = false ∧ (x == ("__classdict__" : Str)) = false := by
  unfold visB at h
  simp only [Bool.and_eq_true, Bool.not_eq_true'] at h
  obtain ⟨⟨h1, h2⟩, h3⟩ := h
  refine ⟨?_, h2, h3⟩
  unfold Vis
  split at h1
  · exact .inl (by assumption)
  · exact .inr (.inl (by assumption))
  · exact .inr (.inr (by assumption))
  · cases h1
theorem glB_ok {sc : Scope} {x : Str} (h : glB sc x = true) : sc.names.lookup x = some .globalImplicit ∧ (x == ("__debug__" : Str)) = false ∧ x ≠ "__name__" := by
  unfold glB at h
  simp only [Bool.and_eq_true, Bool.not_eq_true'] at h
  obtain ⟨⟨h1, h2⟩, h3⟩ := h
  refine ⟨?_, h2, beq_eq_false_iff_ne.mp h3⟩
  split at h1
  · assumption
  · cases h1
theorem star_cons {e : Expr} (h : notStar e = true) (es : List Expr) (env : Env) : starEach (e :: es) env = (false, eval e env) :: starEach es env := by
  cases e <;> first | rfl | cases h
theorem star_none {pos : Pos} {env : Env} : ∀ {S : Type} {N : List Str} {sc : Scope} {cs : CA S} {es : List Expr}, chkA N sc cs es = true → (backTo pos (starEach es env)).any (·.1) = false := by
  have key : ∀ {es : List Expr}, (∀ e ∈ es, notStar e = true) → (backTo pos (starEach es env)).any (·.1) = false := by
    intro es h
    have e : ∀ {es : List Expr}, (∀ e ∈ es, notStar e = true) → ∀ p ∈ starEach es env, p.1 = false := by
      intro es
      induction es with
      | nil => intro _ p hp; cases hp
      | cons x xs ih =>
        intro h p hp
        rw [star_cons (h x List.mem_cons_self)] at hp
        rcases List.mem_cons.mp hp with z | z
        · rw [z]
        · exact ih (fun e he => h e (List.mem_cons_of_mem _ he)) p z
    have e2 := e h
    rw [List.any_eq_false]
    intro p hp
    unfold backTo at hp
    simp only [List.mem_map] at hp
    obtain ⟨q, hq, rfl⟩ := hp
    simpa using e2 q hq
  intro S N sc cs es h
  refine key ?_
  revert cs
  induction es with
  | nil => intro _ _ e he; cases he
  | cons x xs ih =>
    intro cs h e he
    cases cs with
    | nil => cases h
    | cons c cs =>
      unfold chkA at h
      simp only [Bool.and_eq_true] at h
      rcases List.mem_cons.mp he with z | z
      · rw [z]; exact h.1.1
      · exact ih h.2 e z
theorem marks_ok {op : CmpOp} {b : Expr} (h : notSet b = true) : behindInMarks op b = false := by
  cases b <;> first | rfl | cases h
theorem set_ok {e : Expr} {env : Env} (h : notSet e = true) : ∀ x, foldedSetIterable e env x = pure x := by
  intro x
  cases e <;> first | rfl | cases h
theorem plain_ok {b : Expr} (h : notSlice b = true) : PlainIx b := by
  intro o i
  cases b <;> first | rfl | cases h
theorem test_ok {e : Expr} {env : Env} (h : tstP e = true) : ∀ whole, isTrue e env whole = (do let v ← whole; standAt e.pos; holding [v] (truthy v)) := by
  intro whole
  cases e <;> first | rfl | cases h
theorem opEq_ok {o : Bop} {o' : Operator} (h : opEq o o' = true) : o' = opB o := by
  cases o <;> cases o' <;> first | rfl | cases h
theorem cmpEq_ok {o : Cop} {o' : CmpOp} (h : cmpEq o o' = true) : o' = opC o := by
  cases o <;> cases o' <;> first | rfl | cases h

section
variable {Y : Sys} {K : PySem.W.Frag} {mg : Str → Option Value} {W : WX}
theorem tT_tE {e : CE Y.S} {σ : L2.St} {H : Hp} {Q : Bool → Hp → Prop} (h : tT K mg W e σ H Q) : tE K mg W e σ H (fun v H1 => ∃ k, v = .bl k ∧ Q k H1) := by
  obtain ⟨c, H0, ρ, rfl, ok, rel, p⟩ := h
  refine tR.bind ok rel p fun b c' a ea t ok' rel' j p' => ?_
  have p' : Post mg W σ c (JB c) Q ((tru a c'.s).bind fun b s => .ok b s) := by
    cases e2 : tru a c'.s <;> (rw [e2] at p'; exact p')
  obtain ⟨k, ek, p2⟩ := p'.tru
  obtain ⟨k3, d⟩ := a
  have ek : d = .bl k := ek
  subst ek
  exact ⟨k, Is.bl j, p2 k c' rfl t ok' rfl⟩
end
end Mf
set_option Elab.async false
set_option linter.all false
set_option maxRecDepth 100000
set_option maxHeartbeats 1000000
namespace Mf
open PySem L2

section
variable {X : Cx} {Y : Sys} {W : WX} {n : Nat} {N : List Str} {sc : Scope} {pos : Pos} {a' b' c' : Expr} {a b e : CE Y.S}
theorem se_var {i : Nat} {x : Str} (C : Cxt X W n N sc) (h1 : (N[i]? == some x) = true) (h2 : visB sc x = true) : PE X (.Name x pos) (tE (Y := Y) X.K X.mg W (.var i)) := by
  obtain ⟨v1, v2, v3⟩ := visB_ok h2
  refine (pe_var (X := X) (i := i) (x := x) (pos := pos) (by rw [C.hN]; exact beq_iff_eq.mp h1) (by rw [C.hs]; exact v1) v2 v3).weak fun σ H Q h => ?_
  obtain ⟨c, H0, ρ, rfl, ok, rel, p⟩ := h
  have p : Post X.mg W σ c (JE X.K c) Q (match ρ[i]? with | some (.va d) => .ok (.v, d) c.s | some (.ow d) => .ok (.o, d) c.s | _ => .er) := p
  split at p
  · rename_i d er
    obtain ⟨v, es, r⟩ := rel.va i d er
    exact ⟨v, es, p.fin ok r⟩
  · rename_i d er
    obtain ⟨q, es, r, _⟩ := rel.ow i d er
    exact ⟨.ref q, es, p.fin ok ⟨q, rfl, r⟩⟩
  · exact p.elim
theorem se_con {d : D} {k : Const} {j : Nat} (h : conEq d k = true) : PE X (.Constant k j pos) (tE (Y := Y) X.K X.mg W (.con d)) := by
  have go : ∀ {v : V}, PE X (.Constant k j pos) (tC v) → (∀ F, Rep X.K F v d) → PE X (.Constant k j pos) (tE (Y := Y) X.K X.mg W (.con d)) := fun {v} h1 h2 => h1.weak fun σ H Q h => by
    obtain ⟨c, H0, ρ, rfl, ok, rel, p⟩ := h
    have p : Post X.mg W σ c (JE X.K c) Q (.ok (.v, d) c.s) := p
    exact p.fin ok (h2 c.F)
  cases d <;> cases k <;> first | cases h | skip
  · exact go pe_non fun _ => .non
  · exact go (pe_bl) fun _ => by rw [show _ = _ from beq_iff_eq.mp h]; exact .bl _
  · exact go (pe_int) fun _ => by rw [of_decide_eq_true h]; exact .int _
  · exact go (pe_str) fun _ => by rw [show _ = _ from beq_iff_eq.mp h]; exact .str _
theorem se_glb {x : Str} {d : D} (C : Cxt X W n N sc) (h2 : glB sc x = true) (hx : isExn d = false) (hd : isDct d = false) (g : Glb X.K X.mg x d) : PE X (.Name x pos) (tE (Y := Y) X.K X.mg W (.glb x d)) := by
  obtain ⟨v1, v2, v3⟩ := glB_ok h2
  have g2 : ∃ u v, X.mg x = some u ∧ RelV v u ∧ ∀ F, Rep X.K F v d := by
    have g := g.2 hx
    cases d <;> first | exact g | cases hd
  obtain ⟨u, v, e1, e2, e3⟩ := g2
  refine (pe_glob (X := X) (x := x) (pos := pos) (by unfold Gl Env.kindOf; rw [C.hs]; exact v1) e1 e2 v2).weak fun σ H Q h => ?_
  obtain ⟨c, H0, ρ, rfl, ok, rel, p⟩ := h
  have p : Post X.mg W σ c (JE X.K c) Q (.ok (.v, d) c.s) := p
  exact p.fin ok (e3 c.F)
theorem se_bin {o : Bop} (ha : PE X a' (tE X.K X.mg W a)) (hb : PE X b' (tE X.K X.mg W b)) : PE X (.BinOp a' (opB o) b' pos) (tE X.K X.mg W (.bin o a b)) := by
  refine (pe_op (op_B o) ha hb).weak fun σ H Q h => ?_
  obtain ⟨c, H0, ρ, rfl, ok, rel, p⟩ := h
  have p : Post X.mg W σ c (JE X.K c) Q ((ev a ρ c.s).bind fun x s => (ev b ρ s).bind fun y s => liftO s (binD o x.2 y.2)) := p
  refine tR.bind ok rel p fun x c1 xa ea t1 ok1 rel1 j1 p1 => ?_
  refine tR.bind ok1 rel1 (p1.shiftE t1 ok1) fun y c2 xb eb t2 ok2 rel2 j2 p2 => ?_
  obtain ⟨k, d, e, q⟩ := (p2.shiftE t2 ok2).lift
  exact bin_use ok2 (Is.step j1 t2) j2 e q
theorem se_neg (ha : PE X a' (tE X.K X.mg W a)) : PE X (.UnaryOp .USub a' pos) (tE X.K X.mg W (.neg a)) := by
  refine (pe_un un_neg ha).weak fun σ H Q h => ?_
  obtain ⟨c, H0, ρ, rfl, ok, rel, p⟩ := h
  have p : Post X.mg W σ c (JE X.K c) Q ((ev a ρ c.s).bind fun x s => (intOf x s).bind fun i s => .ok (.v, .int (-i)) s) := p
  refine tR.bind ok rel p fun x c1 xa ea t1 ok1 rel1 j1 p1 => ?_
  obtain ⟨i, ei, q⟩ := (p1.shiftE t1 ok1).int
  obtain ⟨k, d⟩ := xa
  have ei : d = .int i := ei
  subst ei
  exact ⟨i, Is.int j1, q.fin ok1 (Rep.int (-i))⟩
theorem se_notE (ha : PE X a' (tE X.K X.mg W a)) : PE X (.UnaryOp .Not a' pos) (tE X.K X.mg W (.not a)) := by
  refine (pe_not ha).weak fun σ H Q h => ?_
  obtain ⟨c, H0, ρ, rfl, ok, rel, p⟩ := h
  have p : Post X.mg W σ c (JE X.K c) Q ((ev a ρ c.s).bind fun x s => (tru x s).bind fun b s => .ok (.v, .bl (!b)) s) := p
  refine tR.bind ok rel p fun x c1 xa ea t1 ok1 rel1 j1 p1 => ?_
  obtain ⟨i, ei, q⟩ := (p1.shiftE t1 ok1).tru
  obtain ⟨k, d⟩ := xa
  have ei : d = .bl i := ei
  subst ei
  exact ⟨i, Is.bl j1, q.fin ok1 (Rep.bl (!i))⟩
theorem bind_tru_tru {S : Type} (r : Res S (K3 × D)) : (r.bind fun x s => (tru x s).bind fun b s => (Res.ok (K3.v, D.bl (!b)) s : Res S (K3 × D))).bind tru = (r.bind tru).bind fun b s => .ok (!b) s := by
  cases r with
  | ok x s =>
    obtain ⟨k, d⟩ := x
    cases d <;> rfl
  | _ => rfl
theorem se_notT (ha : PT X a' (tT X.K X.mg W a)) : PT X (.UnaryOp .Not a' pos) (tT X.K X.mg W (.not a)) := by
  refine (pt_not ha).weak fun σ H Q h => ?_
  obtain ⟨c, H0, ρ, rfl, ok, rel, p⟩ := h
  have p : Post X.mg W σ c (JB c) Q (((ev a ρ c.s).bind fun x s => (tru x s).bind fun b s => .ok (.v, .bl (!b)) s).bind tru) := p
  rw [bind_tru_tru] at p
  refine tR.bind (f := fun ρ s => (ev a ρ s).bind tru) ok rel p fun x c1 xa ea t1 ok1 rel1 j1 p1 => ?_
  have j1 : x = xa := j1
  subst j1
  exact p1 (!x) c1 rfl t1 ok1 rfl
theorem se_cmpE {o : Cop} (C : Cxt X W n N sc) (hs : notSet b' = true) (ha : PE X a' (tE X.K X.mg W a)) (hb : PE X b' (tE X.K X.mg W b)) : PE X (.Compare a' [opC o] [b'] pos) (tE X.K X.mg W (.cmp o a b)) ∧ PT X (.Compare a' [opC o] [b'] pos) (tT X.K X.mg W (.cmp o a b)) := by
  have go : ∀ σ H Q, tE X.K X.mg W (.cmp o a b) σ H Q → tOp (rC X.K o) (tE X.K X.mg W a) (tE X.K X.mg W b) σ H Q := fun σ H Q h => by
    obtain ⟨c, H0, ρ, rfl, ok, rel, p⟩ := h
    have p : Post X.mg W σ c (JE X.K c) Q ((ev a ρ c.s).bind fun x s => (ev b ρ s).bind fun y s => kd s ((cmpD o x.2 y.2).map .bl)) := p
    refine tR.bind ok rel p fun x c1 xa ea t1 ok1 rel1 j1 p1 => ?_
    refine tR.bind ok1 rel1 (p1.shiftE t1 ok1) fun y c2 xb eb t2 ok2 rel2 j2 p2 => ?_
    obtain ⟨d, e, q⟩ := (p2.shiftE t2 ok2).kd
    obtain ⟨r, e1, e2⟩ := Option.map_eq_some_iff.mp e
    subst e2
    exact cmp_use ok2 (Is.step j1 t2) j2 e1 (q.here ok2 (.bl r))
  exact ⟨(pe_cmpR (op_C C.room o) ha hb (marks_ok hs)).weak go, (pt_cmpR (op_C C.room o) ha hb (marks_ok hs)).weak fun σ H Q h => go σ H _ (tT_tE h)⟩
theorem se_chn {o o2 : Cop} {c3 : CE Y.S} (C : Cxt X W n N sc) (hs : notSet c' = true) (ha : PE X a' (tE X.K X.mg W a)) (hb : PE X b' (tE X.K X.mg W b)) (hc : PE X c' (tE X.K X.mg W c3)) :
    PE X (.Compare a' [opC o, opC o2] [b', c'] pos) (tE X.K X.mg W (.chn o o2 a b c3)) ∧ PT X (.Compare a' [opC o, opC o2] [b', c'] pos) (tT X.K X.mg W (.chn o o2 a b c3)) := by
  have hm : lastMarks [opC o, opC o2] [b', c'] = false := marks_ok hs
  have go : ∀ σ H Q, tE X.K X.mg W (.chn o o2 a b c3) σ H Q → tChain (rC X.K o) (rC X.K o2) (tE X.K X.mg W a) (tE X.K X.mg W b) (tE X.K X.mg W c3) σ H Q := fun σ H Q h => by
    obtain ⟨c, H0, ρ, rfl, ok, rel, p⟩ := h
    have p : Post X.mg W σ c (JE X.K c) Q ((ev a ρ c.s).bind fun x s => (ev b ρ s).bind fun y s => (liftO s (cmpD o x.2 y.2)).bind fun k s =>
      if k then (ev c3 ρ s).bind fun z s => kd s ((cmpD o2 y.2 z.2).map .bl) else .ok (.v, .bl false) s) := p
    refine tR.bind ok rel p fun x c1 xa ea t1 ok1 rel1 j1 p1 => ?_
    refine tR.bind ok1 rel1 (p1.shiftE t1 ok1) fun y c2 xb eb t2 ok2 rel2 j2 p2 => ?_
    have p2 := p2.shiftE t2 ok2
    cases e : cmpD o xa.2 xb.2 with
    | none => rw [e] at p2; exact p2.elim
    | some k =>
      rw [e] at p2
      refine cmp_use ok2 (Is.step j1 t2) j2 e ⟨k, rfl, ?_⟩
      cases k with
      | false => exact iteF (p2.fin ok2 (Rep.bl false))
      | true =>
        refine iteT ?_
        have p2 : Post X.mg W σ c2 (JE X.K c2) Q ((ev c3 ρ c2.s).bind fun z s => kd s ((cmpD o2 xb.2 z.2).map .bl)) := p2
        refine tR.bind ok2 rel2 p2 fun z c3 xc ec t3 ok3 rel3 j3 p3 => ?_
        obtain ⟨d, e, q⟩ := (p3.shiftE t3 ok3).kd
        obtain ⟨r, e1, e2⟩ := Option.map_eq_some_iff.mp e
        subst e2
        exact cmp_use ok3 (Is.step j2 t3) j3 e1 (q.here ok3 (.bl r))
  exact ⟨(pe_chain (op_C C.room o) (op_C C.room o2) ha hb hc hm).weak go, (pt_chain (op_C C.room o) (op_C C.room o2) ha hb hc hm).weak fun σ H Q h => go σ H _ (tT_tE h)⟩
theorem se_andE {r : List Expr} (ha : PE X a' (tE X.K X.mg W a)) (hb : PE X (.BoolOp .And (b' :: r) pos) (tE X.K X.mg W b)) : PE X (.BoolOp .And (a' :: b' :: r) pos) (tE X.K X.mg W (.and a b)) := by
  refine (pe_and ha hb).weak fun σ H Q h => ?_
  obtain ⟨c, H0, ρ, rfl, ok, rel, p⟩ := h
  have p : Post X.mg W σ c (JE X.K c) Q ((ev a ρ c.s).bind fun x s => (tru x s).bind fun k s => if k then ev b ρ s else .ok (.v, .bl false) s) := p
  refine tR.bind ok rel p fun x c1 xa ea t1 ok1 rel1 j1 p1 => ?_
  obtain ⟨i, ei, q⟩ := (p1.shiftE t1 ok1).tru
  obtain ⟨k, d⟩ := xa
  have ei : d = .bl i := ei
  subst ei
  refine ⟨i, Is.bl j1, ?_⟩
  cases i with
  | false => exact iteF (q.fin ok1 (Rep.bl false))
  | true => exact iteT ⟨c1, H0, ρ, rfl, ok1, rel1, q⟩
theorem se_orE {r : List Expr} (ha : PE X a' (tE X.K X.mg W a)) (hb : PE X (.BoolOp .Or (b' :: r) pos) (tE X.K X.mg W b)) : PE X (.BoolOp .Or (a' :: b' :: r) pos) (tE X.K X.mg W (.or a b)) := by
  refine (pe_or ha hb).weak fun σ H Q h => ?_
  obtain ⟨c, H0, ρ, rfl, ok, rel, p⟩ := h
  have p : Post X.mg W σ c (JE X.K c) Q ((ev a ρ c.s).bind fun x s => (tru x s).bind fun k s => if k then .ok (.v, .bl true) s else ev b ρ s) := p
  refine tR.bind ok rel p fun x c1 xa ea t1 ok1 rel1 j1 p1 => ?_
  obtain ⟨i, ei, q⟩ := (p1.shiftE t1 ok1).tru
  obtain ⟨k, d⟩ := xa
  have ei : d = .bl i := ei
  subst ei
  refine ⟨i, Is.bl j1, ?_⟩
  cases i with
  | true => exact iteT (q.fin ok1 (Rep.bl true))
  | false => exact iteF ⟨c1, H0, ρ, rfl, ok1, rel1, q⟩
theorem bind_and {S : Type} (r : Res S (K3 × D)) (f : S → Res S (K3 × D)) : (r.bind fun x s => (tru x s).bind fun k s => if k then f s else .ok (K3.v, D.bl false) s).bind tru = (r.bind tru).bind fun k s => if k then (f s).bind tru else .ok false s := by
  cases r with
  | ok x s =>
    obtain ⟨k, d⟩ := x
    cases d with
    | bl b => cases b <;> rfl
    | _ => rfl
  | _ => rfl
theorem bind_or {S : Type} (r : Res S (K3 × D)) (f : S → Res S (K3 × D)) : (r.bind fun x s => (tru x s).bind fun k s => if k then .ok (K3.v, D.bl true) s else f s).bind tru = (r.bind tru).bind fun k s => if k then .ok true s else (f s).bind tru := by
  cases r with
  | ok x s =>
    obtain ⟨k, d⟩ := x
    cases d with
    | bl b => cases b <;> rfl
    | _ => rfl
  | _ => rfl
theorem se_andT {r : List Expr} (ha : PT X a' (tT X.K X.mg W a)) (hb : PW X (.BoolOp .And (b' :: r) pos) (tT X.K X.mg W b)) : PW X (.BoolOp .And (a' :: b' :: r) pos) (tT X.K X.mg W (.and a b)) := by
  refine (pw_and ha hb).weak fun σ H Q h => ?_
  obtain ⟨c, H0, ρ, rfl, ok, rel, p⟩ := h
  have p : Post X.mg W σ c (JB c) Q (((ev a ρ c.s).bind fun x s => (tru x s).bind fun k s => if k then ev b ρ s else .ok (.v, .bl false) s).bind tru) := p
  rw [bind_and] at p
  refine tR.bind (f := fun ρ s => (ev a ρ s).bind tru) ok rel p fun x c1 xa ea t1 ok1 rel1 j1 p1 => ?_
  have j1 : x = xa := j1
  subst j1
  have p1 := p1.shift (J' := JB c1) t1 ok1 fun _ _ _ z => z
  cases x with
  | false => exact iteF (p1.fin ok1 rfl)
  | true => exact iteT ⟨c1, H0, ρ, rfl, ok1, rel1, p1⟩
theorem se_orT {r : List Expr} (ha : PT X a' (tT X.K X.mg W a)) (hb : PW X (.BoolOp .Or (b' :: r) pos) (tT X.K X.mg W b)) : PW X (.BoolOp .Or (a' :: b' :: r) pos) (tT X.K X.mg W (.or a b)) := by
  refine (pw_or ha hb).weak fun σ H Q h => ?_
  obtain ⟨c, H0, ρ, rfl, ok, rel, p⟩ := h
  have p : Post X.mg W σ c (JB c) Q (((ev a ρ c.s).bind fun x s => (tru x s).bind fun k s => if k then .ok (.v, .bl true) s else ev b ρ s).bind tru) := p
  rw [bind_or] at p
  refine tR.bind (f := fun ρ s => (ev a ρ s).bind tru) ok rel p fun x c1 xa ea t1 ok1 rel1 j1 p1 => ?_
  have j1 : x = xa := j1
  subst j1
  have p1 := p1.shift (J' := JB c1) t1 ok1 fun _ _ _ z => z
  cases x with
  | true => exact iteT (p1.fin ok1 rfl)
  | false => exact iteF ⟨c1, H0, ρ, rfl, ok1, rel1, p1⟩
theorem bind_asso {S α β γ : Type} (r : Res S α) (f : α → S → Res S β) (g : β → S → Res S γ) : (r.bind f).bind g = r.bind fun a s => (f a s).bind g := by
  cases r <;> rfl
theorem se_ife {t' : Expr} {t : CE Y.S} (ht : PT X t' (tT X.K X.mg W t)) (ha : PE X a' (tE X.K X.mg W a)) (hb : PE X b' (tE X.K X.mg W b)) : PE X (.IfExp t' a' b' pos) (tE X.K X.mg W (.ife t a b)) := by
  refine (pe_ifExp ht ha hb).weak fun σ H Q h => ?_
  obtain ⟨c, H0, ρ, rfl, ok, rel, p⟩ := h
  have p : Post X.mg W σ c (JE X.K c) Q ((ev t ρ c.s).bind fun x s => (tru x s).bind fun k s => if k then ev a ρ s else ev b ρ s) := p
  rw [← bind_asso] at p
  refine tR.bind (f := fun ρ s => (ev t ρ s).bind tru) ok rel p fun x c1 xa ea t1 ok1 rel1 j1 p1 => ?_
  have j1 : x = xa := j1
  subst j1
  have p1 := p1.shiftE t1 ok1
  cases x with
  | true => exact iteT ⟨c1, H0, ρ, rfl, ok1, rel1, p1⟩
  | false => exact iteF ⟨c1, H0, ρ, rfl, ok1, rel1, p1⟩
theorem se_ix (C : Cxt X W n N sc) (hs : notSlice b' = true) (ha : PE X a' (tE X.K X.mg W a)) (hb : PE X b' (tE X.K X.mg W b)) : PE X (.Subscript a' b' pos) (tE X.K X.mg W (.ix a b)) := by
  refine (pe_ix (ix_X C.room) ha hb (plain_ok hs)).weak fun σ H Q h => ?_
  obtain ⟨c, H0, ρ, rfl, ok, rel, p⟩ := h
  have p : Post X.mg W σ c (JE X.K c) Q ((ev a ρ c.s).bind fun x s => (ev b ρ s).bind fun y s => kd s (ixD x.2 y.2)) := p
  refine tR.bind ok rel p fun x c1 xa ea t1 ok1 rel1 j1 p1 => ?_
  refine tR.bind ok1 rel1 (p1.shiftE t1 ok1) fun y c2 xb eb t2 ok2 rel2 j2 p2 => ?_
  obtain ⟨d, e, q⟩ := (p2.shiftE t2 ok2).kd
  exact ix_use ok2 (Is.step j1 t2) j2 e q
theorem se_slL {p2 : Pos} (ha : PE X a' (tE X.K X.mg W a)) (hb : PE X b' (tE X.K X.mg W b)) : PE X (.Subscript a' (.Slice (some b') none none p2) pos) (tE X.K X.mg W (.slL a b)) := by
  refine (pe_slice sl_S ha (po_some hb) po_none).weak fun σ H Q h => ?_
  obtain ⟨c, H0, ρ, rfl, ok, rel, p⟩ := h
  have p : Post X.mg W σ c (JE X.K c) Q ((ev a ρ c.s).bind fun x s => (ev b ρ s).bind fun y s => (intOf y s).bind fun i s => liftO s (slD x.2 (some i) none)) := p
  refine tR.bind ok rel p fun x c1 xa ea t1 ok1 rel1 j1 p1 => ?_
  refine tR.bind ok1 rel1 (p1.shiftE t1 ok1) fun y c2 xb eb t2 ok2 rel2 j2 p2 => ?_
  obtain ⟨i, ei, q⟩ := (p2.shiftE t2 ok2).int
  obtain ⟨k, d⟩ := xb
  have ei : d = .int i := ei
  subst ei
  obtain ⟨k, d, e, q⟩ := q.lift
  exact ⟨i, Is.int j2, sl_use ok2 (Is.step j1 t2) e q⟩
theorem se_slH {p2 : Pos} (ha : PE X a' (tE X.K X.mg W a)) (hb : PE X b' (tE X.K X.mg W b)) : PE X (.Subscript a' (.Slice none (some b') none p2) pos) (tE X.K X.mg W (.slH a b)) := by
  refine (pe_slice sl_S ha po_none (po_some hb)).weak fun σ H Q h => ?_
  obtain ⟨c, H0, ρ, rfl, ok, rel, p⟩ := h
  have p : Post X.mg W σ c (JE X.K c) Q ((ev a ρ c.s).bind fun x s => (ev b ρ s).bind fun y s => (intOf y s).bind fun i s => liftO s (slD x.2 none (some i))) := p
  refine tR.bind ok rel p fun x c1 xa ea t1 ok1 rel1 j1 p1 => ?_
  refine tR.bind ok1 rel1 (p1.shiftE t1 ok1) fun y c2 xb eb t2 ok2 rel2 j2 p2 => ?_
  obtain ⟨i, ei, q⟩ := (p2.shiftE t2 ok2).int
  obtain ⟨k, d⟩ := xb
  have ei : d = .int i := ei
  subst ei
  obtain ⟨k, d, e, q⟩ := q.lift
  exact ⟨i, Is.int j2, sl_use ok2 (Is.step j1 t2) e q⟩
theorem se_slB {p2 : Pos} {h' : Expr} {hi : CE Y.S} (ha : PE X a' (tE X.K X.mg W a)) (hb : PE X b' (tE X.K X.mg W b)) (hh : PE X h' (tE X.K X.mg W hi)) : PE X (.Subscript a' (.Slice (some b') (some h') none p2) pos) (tE X.K X.mg W (.slB a b hi)) := by
  refine (pe_slice sl_S ha (po_some hb) (po_some hh)).weak fun σ H Q h => ?_
  obtain ⟨c, H0, ρ, rfl, ok, rel, p⟩ := h
  have p : Post X.mg W σ c (JE X.K c) Q ((ev a ρ c.s).bind fun x s => (ev b ρ s).bind fun y s => (intOf y s).bind fun i s => (ev hi ρ s).bind fun z s => (intOf z s).bind fun j s => liftO s (slD x.2 (some i) (some j))) := p
  refine tR.bind ok rel p fun x c1 xa ea t1 ok1 rel1 j1 p1 => ?_
  refine tR.bind ok1 rel1 (p1.shiftE t1 ok1) fun y c2 xb eb t2 ok2 rel2 j2 p2 => ?_
  obtain ⟨i, ei, q⟩ := (p2.shiftE t2 ok2).int
  obtain ⟨k, d⟩ := xb
  have ei : d = .int i := ei
  subst ei
  refine ⟨i, Is.int j2, tR.bind ok2 rel2 q fun z c3 xc ec t3 ok3 rel3 j3 p3 => ?_⟩
  obtain ⟨j, ej, q⟩ := (p3.shiftE t3 ok3).int
  obtain ⟨k, d⟩ := xc
  have ej : d = .int j := ej
  subst ej
  obtain ⟨k, d, e, q⟩ := q.lift
  exact ⟨j, Is.int j3, sl_use ok3 (Is.step (Is.step j1 t2) t3) e q⟩
theorem se_tup {es : List Expr} {cs : CA Y.S} {k : Nat} (ha : PA X es (tA X.K X.mg W cs)) : PE X (.Tuple es k pos) (tE X.K X.mg W (.tup cs)) := by
  refine (pe_tupZ ha).weak fun σ H Q h => ?_
  obtain ⟨c, H0, ρ, rfl, ok, rel, p⟩ := h
  have p : Post X.mg W σ c (JE X.K c) Q ((evA cs ρ c.s).bind fun ds s => if lenOk ds.length then .ok (.v, .tup ds) s else .er) := p
  refine tR.bind ok rel p fun xs c1 ds ea t1 ok1 rel1 j1 p1 => ?_
  have j1 : Reps X.K c1.F xs ds := j1
  have p1 := p1.shiftE t1 ok1
  split at p1
  · rename_i hl
    exact ⟨by rw [j1.length]; exact szM hl, p1.fi.tup ok1 j1⟩
  · exact p1.elim
theorem se_lst {es : List Expr} {cs : CA Y.S} (ha : PA X es (tA X.K X.mg W cs)) : PE X (.List es pos) (tE X.K X.mg W (.lst cs)) := by
  refine (pe_lst ha).weak fun σ H Q h => ?_
  obtain ⟨c, H0, ρ, rfl, ok, rel, p⟩ := h
  have p : Post X.mg W σ c (JE X.K c) Q ((evA cs ρ c.s).bind fun ds s => if lenOk ds.length then .ok (.t, .lst ds) s else .er) := p
  refine tR.bind ok rel p fun xs c1 ds ea t1 ok1 rel1 j1 p1 => ?_
  have j1 : Reps X.K c1.F xs ds := j1
  have p1 := p1.shiftE t1 ok1
  split at p1
  · rename_i hl
    exact ⟨by rw [j1.length]; exact szM hl, p1.fi.lst ok1 j1⟩
  · exact p1.elim
theorem sa_nil : PA X [] (tA (Y := Y) X.K X.mg W .nil) := by
  refine pa_nil.weak fun σ H Q h => ?_
  obtain ⟨c, H0, ρ, rfl, ok, rel, p⟩ := h
  have p : Post X.mg W σ c (JA X.K c) Q (.ok [] c.s) := p
  exact p.fin ok Reps.nil
theorem sa_cons {es : List Expr} {cs : CA Y.S} (hs : notStar a' = true) (ha : PE X a' (tE X.K X.mg W a)) (hr : PA X es (tA X.K X.mg W cs)) : PA X (a' :: es) (tA X.K X.mg W (.cons a cs)) := by
  refine (pa_cons ha hr (star_cons hs _ _)).weak fun σ H Q h => ?_
  obtain ⟨c, H0, ρ, rfl, ok, rel, p⟩ := h
  have p : Post X.mg W σ c (JA X.K c) Q ((ev a ρ c.s).bind fun x s => (dat x s).bind fun d s => (evA cs ρ s).bind fun ds s => .ok (d :: ds) s) := p
  refine tR.bind ok rel p fun x c1 xa ea t1 ok1 rel1 j1 p1 => ?_
  obtain ⟨ko, p1⟩ := p1.dat
  obtain ⟨c2, es2, eh2, t2, ok2, r2⟩ := Is.data j1 ko t1 ok1
  rw [← eh2]
  rw [← es2] at p1
  have rel2 := rel.step t2
  have p1 := p1.shift (J' := JA X.K c2) t2 ok2 fun _ _ _ z => z
  refine tR.bind ok2 rel2 p1 fun vs c3 ds ea3 t3 ok3 rel3 j3 p3 => ?_
  have j3 : Reps X.K c3.F vs ds := j3
  exact (p3.shift (J' := JA X.K c3) t3 ok3 fun _ _ _ z => z).fin ok3 (Reps.cons (r2.mono t3.f) j3)
end
end Mf
set_option Elab.async false
set_option linter.all false
set_option maxRecDepth 100000
set_option maxHeartbeats 1000000
namespace Mf
open PySem L2 PySem.Spec PyProof.Rows
inductive Zk where
  | lst (l : Addr) | tup (l : Addr) | str (x : Str) (t : Tok)
def Zk.val : Zk → Value
  | .lst l => .ref l | .tup l => .ref l | .str x t => .str x t
def Zk.it (h : Heap) (a : Addr) (i : Nat) : Zk → Prop
  | .lst l => h.IsListIter a l i | .tup l => h.IsTupleIter a l i | .str x t => h.IsStrIter a "str_ascii_iterator" x t i
def Zk.ne (a : Addr) : Zk → Prop
  | .lst l => l ≠ a | .tup l => l ≠ a | .str _ _ => True
def Zk.has (h : Heap) (i : Nat) (P : Value → Prop) : Zk → Prop
  | .lst l => ∃ its u, h.IsList l its ∧ its[i]? = some u ∧ P u
  | .tup l => ∃ its u, h.IsTuple l its ∧ its[i]? = some u ∧ P u
  | .str x _ => ∃ c, x.cps[i]? = some c ∧ ∀ t, P (.str ⟨#[c]⟩ t)
def Zk.over (h : Heap) (i : Nat) : Zk → Prop
  | .lst l => ∃ its, h.IsList l its ∧ its[i]? = none
  | .tup l => ∃ its, h.IsTuple l its ∧ its[i]? = none
  | .str x _ => x.cps[i]? = none
def Zk.here (h : Heap) : Zk → Prop
  | .lst l => ∃ its, h.IsList l its
  | .tup l => ∃ its, h.IsTuple l its
  | .str x _ => x.cps.all (· < 128) = true
section
variable {h h' : Heap} {a b : Addr} {i : Nat} {P : Value → Prop} {c : Zk}
theorem Zk.it_ext (e : c.it h a i) (hs : Heap.ExtBut b h h') (hab : a ≠ b) : c.it h' a i := by
  cases c with
  | lst l => exact Heap.IsListIter.extBut e hs hab
  | tup l => exact Heap.IsTupleIter.extBut e hs hab
  | str x t => exact Heap.IsStrIter.extBut e hs hab
theorem Zk.it_at (e : c.it h a i) (k : ∀ o, h.get? a = some o → h'.get? a = some o) : c.it h' a i := by
  cases c with
  | lst l => exact Heap.IsListIter.at e k
  | tup l => exact Heap.IsTupleIter.at e k
  | str x t => obtain ⟨o, ho, r⟩ := e; exact ⟨o, k o ho, r⟩
theorem Zk.it_obj (e : c.it h a i) : ∃ o, h.get? a = some o ∧ ∀ v, o.data ≠ .cell v := by
  cases c with
  | lst l => obtain ⟨o, ho, _, d⟩ := e; exact ⟨o, ho, fun v q => by rw [d] at q; cases q⟩
  | tup l => obtain ⟨o, ho, _, d⟩ := e; exact ⟨o, ho, fun v q => by rw [d] at q; cases q⟩
  | str x t => obtain ⟨o, ho, _, d⟩ := e; exact ⟨o, ho, fun v q => by rw [d] at q; cases q⟩
theorem Zk.has_ext (e : c.has h i P) (hs : Heap.ExtBut b h h') (hab : c.ne b) : c.has h' i P := by
  cases c with
  | lst l => obtain ⟨its, u, h1, h2⟩ := e; exact ⟨its, u, h1.extBut hs hab, h2⟩
  | tup l => obtain ⟨its, u, h1, h2⟩ := e; exact ⟨its, u, h1.extBut hs hab, h2⟩
  | str x t => exact e
theorem Zk.over_ext (e : c.over h i) (hs : Heap.ExtBut b h h') (hab : c.ne b) : c.over h' i := by
  cases c with
  | lst l => obtain ⟨its, h1, h2⟩ := e; exact ⟨its, h1.extBut hs hab, h2⟩
  | tup l => obtain ⟨its, h1, h2⟩ := e; exact ⟨its, h1.extBut hs hab, h2⟩
  | str x t => exact e
end
section
variable {prog : Program} {w : World} {A : Around} {E : Value → Shared → Prop} {s : Shared} {c c1 c2 : Zk} {i : Nat}
theorem Zk.next {a : Addr} {P : Value → Prop} {Q : Value → Shared → Prop} (e : c.it s.heap a i) (hx : c.has s.heap i P) (hQ : ∀ u h' tk, P u → c.it h' a (i + 1) → Heap.SameBut a s.heap h' → Q u { s with heap := h', toks := tk }) :
    wpAny (model prog w) A (Builtin.SmallTypes.nextOf (.ref a)) Q E s := by
  cases c with
  | lst l => obtain ⟨its, u, h1, h2, h3⟩ := hx; exact wpAny_nextOf_list_item e h1 h2 fun h' k1 k2 => hQ u h' s.toks h3 k1 k2
  | tup l => obtain ⟨its, u, h1, h2, h3⟩ := hx; exact RZ.nextOf_tuple_item e h1 h2 fun h' k1 k2 => hQ u h' s.toks h3 k1 k2
  | str x t => obtain ⟨ch, h1, h2⟩ := hx; exact wpAny_nextOf_ascii_item e h1 fun h' k1 k2 => hQ _ h' (s.toks + 1) (h2 _) k1 k2
theorem Zk.stop {a : Addr} {Q : Value → Shared → Prop} (hh : A.handled = none) (e : c.it s.heap a i) (hx : c.over s.heap i)
    (hE : ∀ h' e, Heap.ExtBut a s.heap h' → (∃ o, h'.get? e = some o ∧ o.cls = .type "StopIteration") → E (.ref e) { s with heap := h' }) : wpAny (model prog w) A (Builtin.SmallTypes.nextOf (.ref a)) Q E s := by
  cases c with
  | lst l => obtain ⟨its, h1, h2⟩ := hx; exact wpAny_nextOf_list_end hh e h1 h2 hE
  | tup l => obtain ⟨its, h1, h2⟩ := hx; exact RZ.nextOf_tuple_end hh e h1 h2 hE
  | str x t => exact wpAny_nextOf_ascii_end hh e hx hE
structure Zap (z TI TO i1 i2 : Addr) : Prop where
  a1 : TI ≠ z
  a2 : TO ≠ z
  a3 : i1 ≠ z
  a4 : i2 ≠ z
  a5 : TI ≠ TO
  a6 : TI ≠ i1
  a7 : TI ≠ i2
  a8 : TO ≠ i1
  a9 : TO ≠ i2
  a0 : i1 ≠ i2
variable {z TI TO i1 i2 : Addr}
abbrev Zst (h : Heap) (z TI TO i1 i2 : Addr) (c1 c2 : Zk) (i : Nat) : Prop := IsZip h z TI TO .none ∧ IsPair h TI (.ref i1) (.ref i2) ∧ (∃ x y, IsPair h TO x y) ∧ c1.it h i1 i ∧ c2.it h i2 i
theorem zk_item {P1 P2 : Value → Prop} {Q : Value → Shared → Prop} (D : Zap z TI TO i1 i2) (st : Zst s.heap z TI TO i1 i2 c1 c2 i) (n1 : c1.ne z) (n2 : c2.ne z ∧ c2.ne i1 ∧ c2.ne TO) (hx : c1.has s.heap i P1) (hy : c2.has s.heap i P2)
    (hQ : ∀ h' tk x y, P1 x → P2 y → IsZip h' z TI TO (rawInt s.heap.objs.size) → IsPair h' TO x y → c1.it h' i1 (i + 1) → c2.it h' i2 (i + 1) → IsPair h' s.heap.objs.size x y →
      (∀ c o, c ≠ z → c ≠ TO → c ≠ i1 → c ≠ i2 → s.heap.get? c = some o → h'.get? c = some o) → Q (.ref s.heap.objs.size) { s with heap := h', toks := tk }) :
    wpAny (model prog w) A (Builtin.«zip.__next__» ⟨[.ref z], []⟩) (fun fin s' => ∃ v, fin = .done (.ret v) ∧ Q v s') E s := by
  obtain ⟨hz, hTI, ⟨a, b, hTO⟩, h1, h2⟩ := st
  show wpAny _ _ (field (.ref z) 2 >>= _) _ _ _
  refine wpAny_bind (wpAny_field hz rfl (x := .bool false) rfl ?_); show wpAny _ _ (field (.ref z) 3 >>= _) _ _ _
  refine wpAny_bind (wpAny_field hz rfl (x := .ref TI) rfl (wpAny_bind (wpAny_seqItems hTI rfl ?_)))
  show wpAny _ _ (Builtin.SmallTypes.ownedTupleIsFree (.ref z) >>= _) _ _ _
  refine wpAny_bind ?_
  unfold Builtin.SmallTypes.ownedTupleIsFree
  refine wpAny_bind (wpAny_field hz rfl (x := .none) rfl (wpAny_pure ?_))
  simp only [if_true]
  refine wpAny_bind (wpAny_rule (wpAny_bind (wpAny_field hz rfl (x := .ref TO) rfl (wpAny_bind (wpAny_setField_rec hz (by simp) fun g1 z1 e1 => ?_)))))
  replace z1 : IsZip g1 z TI TO .ellipsis := z1
  refine wpAny_bind ?_
  simp only [List.zipIdx_cons, List.zipIdx_nil, List.forIn_cons, List.forIn_nil]
  refine wpAny_bind (wpAny_bind (wpAny_onRaise ?_)); show wpAny _ _ (Builtin.SmallTypes.nextOf (.ref i1) >>= _) _ _ _
  refine wpAny_bind (Zk.next (Zk.it_ext h1 e1.extBut D.a3) (Zk.has_ext hx e1.extBut n1) fun x g2 t2 px q2 e2 => wpAny_pure ?_)
  have T2 : IsPair g2 TO a b := e2.extBut _ _ D.a8 (e1.extBut _ _ D.a2 hTO)
  refine wpAny_bind (wpAny_seqItems T2 rfl (wpAny_bind (wpAny_updateSeq_pair T2 fun g3 T3 e3 => wpAny_bind (wpAny_letGo (wpAny_pure ?_)))))
  replace T3 : IsPair g3 TO x b := T3
  refine wpAny_bind (wpAny_bind (wpAny_onRaise ?_)); show wpAny _ _ (Builtin.SmallTypes.nextOf (.ref i2) >>= _) _ _ _
  refine wpAny_bind (Zk.next (Zk.it_ext (Zk.it_ext (Zk.it_ext h2 e1.extBut D.a4) e2.extBut D.a0.symm) e3.extBut D.a9.symm) (Zk.has_ext (Zk.has_ext (Zk.has_ext hy e1.extBut n2.1) e2.extBut n2.2.1) e3.extBut n2.2.2) fun y g4 t4 py q4 e4 => wpAny_pure ?_)
  have T4 : IsPair g4 TO x b := e4.extBut _ _ D.a9 T3
  refine wpAny_bind (wpAny_seqItems T4 rfl (wpAny_bind (wpAny_updateSeq_pair T4 fun g5 T5 e5 => wpAny_bind (wpAny_letGo (wpAny_pure (wpAny_pure ?_))))))
  replace T5 : IsPair g5 TO x y := T5
  refine wpAny_bind (wpAny_seqItems T5 rfl (wpAny_bind (wpAny_newTuple ?_)))
  have hsz : g5.objs.size = s.heap.objs.size := by rw [e5.1, e4.1, e3.1, e2.1, e1.1]
  have z5 : IsZip g5 z TI TO .ellipsis := e5.extBut _ _ D.a2.symm (e4.extBut _ _ D.a4.symm (e3.extBut _ _ D.a2.symm (e2.extBut _ _ D.a3.symm z1)))
  have k5 : ∀ c o, c ≠ z → c ≠ TO → c ≠ i1 → c ≠ i2 → s.heap.get? c = some o → g5.get? c = some o := fun c o b1 b2 b3 b4 e => e5.extBut _ _ b2 (e4.extBut _ _ b4 (e3.extBut _ _ b2 (e2.extBut _ _ b3 (e1.extBut _ _ b1 e))))
  have r1 : c1.it g5 i1 (i + 1) := Zk.it_ext (Zk.it_ext (Zk.it_ext q2 e3.extBut D.a8.symm) e4.extBut D.a0) e5.extBut D.a8.symm
  have r2 : c2.it g5 i2 (i + 1) := Zk.it_ext q4 e5.extBut D.a9.symm
  have zlt : z < g5.objs.size := Heap.lt_size z5
  show wpAny _ _ (Builtin.SmallTypes.ownedTupleHandOut (.ref z) (.ref g5.objs.size) >>= _) _ _ _
  refine wpAny_bind ?_
  unfold Builtin.SmallTypes.ownedTupleHandOut
  have z6 : IsZip (g5.push { cls := .type "tuple", data := .seq #[x, y] }) z TI TO .ellipsis := Heap.get?_push_of_some _ z5
  refine wpAny_bind (wpAny_setField_rec z6 (by simp) fun g7 z7 e7 => ?_)
  replace z7 : IsZip g7 z TI TO (rawInt g5.objs.size) := z7
  refine wpAny_setField_rec z7 (by simp) fun g8 z8 e8 => ?_
  replace z8 : IsZip g8 z TI TO (rawInt g5.objs.size) := z8
  have up : ∀ c o, c ≠ z → g5.get? c = some o → g8.get? c = some o := fun c o b1 e => e8.extBut _ _ b1 (e7.extBut _ _ b1 (Heap.get?_push_of_some _ e))
  have T8 : IsPair g8 g5.objs.size x y := e8.extBut _ _ (Nat.ne_of_gt zlt) (e7.extBut _ _ (Nat.ne_of_gt zlt) (Heap.get?_push_size _ rfl))
  rw [hsz] at z8 T8
  refine wpAny_pure ⟨_, rfl, ?_⟩
  show Q (.ref g5.objs.size) _
  rw [hsz]
  exact hQ g8 _ x y px py z8 (up _ _ D.a2 T5) (Zk.it_at r1 fun o e => up _ o D.a3 e) (Zk.it_at r2 fun o e => up _ o D.a4 e) T8 fun c o b1 b2 b3 b4 e => up c o b1 (k5 c o b1 b2 b3 b4 e)
theorem zk_end {Q : PySem.Fin → Shared → Prop} (hh : A.handled = none) (D : Zap z TI TO i1 i2) (st : Zst s.heap z TI TO i1 i2 c1 c2 i) (n1 : c1.ne z) (n2 : c2.ne z ∧ c2.ne i1 ∧ c2.ne TO)
    (he : c1.over s.heap i ∨ (c1.has s.heap i (fun _ => True) ∧ c2.over s.heap i))
    (hE : ∀ h' e tk, (∀ c o, c ≠ z → c ≠ TO → c ≠ i1 → c ≠ i2 → s.heap.get? c = some o → h'.get? c = some o) → (∃ o, h'.get? e = some o ∧ o.cls = .type "StopIteration") → E (.ref e) { s with heap := h', toks := tk }) :
    wpAny (model prog w) A (Builtin.«zip.__next__» ⟨[.ref z], []⟩) Q E s := by
  obtain ⟨hz, hTI, ⟨a, b, hTO⟩, h1, h2⟩ := st
  show wpAny _ _ (field (.ref z) 2 >>= _) _ _ _
  refine wpAny_bind (wpAny_field hz rfl (x := .bool false) rfl ?_); show wpAny _ _ (field (.ref z) 3 >>= _) _ _ _
  refine wpAny_bind (wpAny_field hz rfl (x := .ref TI) rfl (wpAny_bind (wpAny_seqItems hTI rfl ?_)))
  show wpAny _ _ (Builtin.SmallTypes.ownedTupleIsFree (.ref z) >>= _) _ _ _
  refine wpAny_bind ?_
  unfold Builtin.SmallTypes.ownedTupleIsFree
  refine wpAny_bind (wpAny_field hz rfl (x := .none) rfl (wpAny_pure ?_))
  simp only [if_true]
  refine wpAny_bind (wpAny_rule (wpAny_bind (wpAny_field hz rfl (x := .ref TO) rfl (wpAny_bind (wpAny_setField_rec hz (by simp) fun g1 z1 e1 => ?_)))))
  replace z1 : IsZip g1 z TI TO .ellipsis := z1
  refine wpAny_bind ?_
  simp only [List.zipIdx_cons, List.zipIdx_nil, List.forIn_cons, List.forIn_nil]
  refine wpAny_bind (wpAny_bind (wpAny_onRaise ?_)); show wpAny _ _ (Builtin.SmallTypes.nextOf (.ref i1) >>= _) _ _ _
  rcases he with he | ⟨hx, he⟩
  · refine wpAny_bind (Zk.stop hh (Zk.it_ext h1 e1.extBut D.a3) (Zk.over_ext he e1.extBut n1) fun g2 e e2 ho => ?_)
    obtain ⟨oe, hoe, hce⟩ := ho
    have z2 : IsZip g2 z TI TO .ellipsis := e2 _ _ D.a3.symm z1
    have hez : e ≠ z := fun x => by subst x; rw [z2] at hoe; cases hoe; simp at hce
    exact wpAny_setField_rec z2 (by simp) fun g3 _ e3 => hE g3 e s.toks (fun c o b1 _ b3 _ x => e3.extBut _ _ b1 (e2 _ _ b3 (e1.extBut _ _ b1 x))) ⟨oe, e3.extBut _ _ hez hoe, hce⟩
  · refine wpAny_bind (Zk.next (Zk.it_ext h1 e1.extBut D.a3) (Zk.has_ext hx e1.extBut n1) fun x g2 t2 px q2 e2 => wpAny_pure ?_)
    have T2 : IsPair g2 TO a b := e2.extBut _ _ D.a8 (e1.extBut _ _ D.a2 hTO)
    refine wpAny_bind (wpAny_seqItems T2 rfl (wpAny_bind (wpAny_updateSeq_pair T2 fun g3 T3 e3 => wpAny_bind (wpAny_letGo (wpAny_pure ?_)))))
    refine wpAny_bind (wpAny_bind (wpAny_onRaise ?_)); show wpAny _ _ (Builtin.SmallTypes.nextOf (.ref i2) >>= _) _ _ _
    refine wpAny_bind (Zk.stop hh (Zk.it_ext (Zk.it_ext (Zk.it_ext h2 e1.extBut D.a4) e2.extBut D.a0.symm) e3.extBut D.a9.symm) (Zk.over_ext (Zk.over_ext (Zk.over_ext he e1.extBut n2.1) e2.extBut n2.2.1) e3.extBut n2.2.2) fun g4 e e4 ho => ?_)
    obtain ⟨oe, hoe, hce⟩ := ho
    have z4 : IsZip g4 z TI TO .ellipsis := e4 _ _ D.a4.symm (e3.extBut _ _ D.a2.symm (e2.extBut _ _ D.a3.symm z1))
    have hez : e ≠ z := fun x => by subst x; rw [z4] at hoe; cases hoe; simp at hce
    exact wpAny_setField_rec z4 (by simp) fun g5 _ e5 => hE g5 e _ (fun c o b1 b2 b3 b4 x => e5.extBut _ _ b1 (e4 _ _ b4 (e3.extBut _ _ b2 (e2.extBut _ _ b3 (e1.extBut _ _ b1 x))))) ⟨oe, e5.extBut _ _ hez hoe, hce⟩
theorem zk_next {P1 P2 : Value → Prop} {Q : Option Value → Shared → Prop} (D : Zap z TI TO i1 i2) (st : Zst s.heap z TI TO i1 i2 c1 c2 i) (n1 : c1.ne z) (n2 : c2.ne z ∧ c2.ne i1 ∧ c2.ne TO) (hx : c1.has s.heap i P1) (hy : c2.has s.heap i P2)
    (hQ : ∀ h' tk x y, P1 x → P2 y → IsZip h' z TI TO (rawInt s.heap.objs.size) → IsPair h' TO x y → c1.it h' i1 (i + 1) → c2.it h' i2 (i + 1) → IsPair h' s.heap.objs.size x y →
      (∀ c o, c ≠ z → c ≠ TO → c ≠ i1 → c ≠ i2 → s.heap.get? c = some o → h'.get? c = some o) → Q (some (.ref s.heap.objs.size)) { s with heap := h', toks := tk }) : wpAny (model prog w) A (pyNext (.ref z)) Q E s := by
  have hT : s.TypeIs (.ref z) "zip" := ⟨_, st.1, rfl⟩
  unfold pyNext
  exact wpAny_bind (wpAny_attempt (wpAny_callSpecial?_slot (name := Str.ofString "__next__") hT F.slot_zip_next (wpAny_call_entry F.slot_zip_next hT F.entry_zip_next (zk_item D st n1 n2 hx hy fun h' tk x y b1 b2 b3 b4 b5 b6 b7 b8 => wpAny_pure (hQ h' tk x y b1 b2 b3 b4 b5 b6 b7 b8)) (F.args_zip_next_1 _))))
theorem zk_done {Q : Option Value → Shared → Prop} (hh : A.handled = none) (D : Zap z TI TO i1 i2) (st : Zst s.heap z TI TO i1 i2 c1 c2 i) (n1 : c1.ne z) (n2 : c2.ne z ∧ c2.ne i1 ∧ c2.ne TO)
    (he : c1.over s.heap i ∨ (c1.has s.heap i (fun _ => True) ∧ c2.over s.heap i))
    (hQ : ∀ h' tk, (∀ c o, c ≠ z → c ≠ TO → c ≠ i1 → c ≠ i2 → s.heap.get? c = some o → h'.get? c = some o) → Q none { s with heap := h', toks := tk }) : wpAny (model prog w) A (pyNext (.ref z)) Q E s := by
  have hT : s.TypeIs (.ref z) "zip" := ⟨_, st.1, rfl⟩
  unfold pyNext
  refine wpAny_bind (wpAny_attempt (wpAny_callSpecial?_slot (name := Str.ofString "__next__") hT F.slot_zip_next (wpAny_call_entry F.slot_zip_next hT F.entry_zip_next (zk_end hh D st n1 n2 he fun h' e tk hk ho => ?_) (F.args_zip_next_1 _))))
  obtain ⟨o, ho, hc⟩ := ho
  exact wpAny_bind (wpAny_isInstance (T := "StopIteration") (b := true) ⟨o, ho, hc⟩ isSubtype_stop (wpAny_pure (hQ _ tk hk)))
def Zk.obj : Zk → Obj
  | .lst l => { cls := .type "list_iterator", data := .fields #[.ref l, .int 0 0] }
  | .tup l => { cls := .type "tuple_iterator", data := .fields #[.ref l, .int 0 0] }
  | .str x t => { cls := .type "str_ascii_iterator", data := .fields #[.str x t, .int 0 0] }
theorem Zk.iter {Q : Value → Shared → Prop} (hc : c.here s.heap) (hQ : Q (.ref s.heap.objs.size) { s with heap := s.heap.push c.obj }) : wpAny (model prog w) A (pyIter c.val) Q E s := by
  cases c with
  | lst l => obtain ⟨its, h⟩ := hc; exact wpAny_pyIter_list h hQ
  | tup l => obtain ⟨its, h⟩ := hc; exact wpAny_pyIter_tuple h hQ
  | str x t => exact wpAny_pyIter_ascii hc hQ
theorem Zk.here_push {h : Heap} {o : Obj} (e : c.here h) : c.here (h.push o) := by
  cases c with
  | lst l => obtain ⟨its, h⟩ := e; exact ⟨its, h.push _⟩
  | tup l => obtain ⟨its, h⟩ := e; exact ⟨its, h.push _⟩
  | str x t => exact e
abbrev zk3 (h : Heap) (c1 c2 : Zk) : Heap := ((h.push c1.obj).push c2.obj).push { cls := .type "tuple", data := .seq #[.ref h.objs.size, .ref (h.push c1.obj).objs.size] }
abbrev zk4 (h : Heap) (c1 c2 : Zk) : Heap := (zk3 h c1 c2).push { cls := .type "tuple", data := .seq #[.none, .none] }
abbrev zk5 (h : Heap) (c1 c2 : Zk) : Heap := (zk4 h c1 c2).push { cls := .type "zip", data := .fields #[.none, .bool false, .bool false, .ref ((h.push c1.obj).push c2.obj).objs.size, .ref (zk3 h c1 c2).objs.size] }
end
theorem zk_new (c1 c2 : Zk) : Meets (Builtin.«zip.__new__» ⟨[.type "zip", c1.val, c2.val], []⟩) (fun _ R s => c1.here s.heap ∧ c2.here s.heap ∧
      R (.ok (.ret (.ref (zk4 s.heap c1 c2).objs.size))) { s with heap := zk5 s.heap c1 c2 }) :=
  .of_wp fun prog w A R s h => by
    obtain ⟨hp, g, d, tk, os⟩ := s; obtain ⟨hl1, hl2, h⟩ := h
    have hsub := PySem.sub_zip
    have hL1 : c1.here (Shared.heap ⟨hp, g, d, tk, os⟩) := hl1
    have hL2 : c2.here (Shared.heap ⟨hp.push c1.obj, g, d, tk, os⟩) := Zk.here_push hl2
    wp_walk using Zk.iter hL1, Zk.iter hL2
    exact ⟨_, rfl, h⟩
section
variable {prog : Program} {w : World} {A : Around} {E : Value → Shared → Prop} {s : Shared}
theorem Zk.it_new {h : Heap} {c : Zk} {a : Addr} (e : h.get? a = some c.obj) : c.it h a 0 := by
  cases c with
  | lst l => exact ⟨_, e, rfl, rfl⟩
  | tup l => exact ⟨_, e, rfl, rfl⟩
  | str x t => exact ⟨_, e, rfl, rfl⟩
theorem Zk.alive (c : Zk) : c.obj.isFreed = false := by cases c <;> rfl
theorem zk_call (c1 c2 : Zk) {Q : Value → Shared → Prop} (hl1 : c1.here s.heap) (hl2 : c2.here s.heap)
    (h : ∀ h', Zst h' (s.heap.objs.size + 4) (s.heap.objs.size + 2) (s.heap.objs.size + 3) s.heap.objs.size (s.heap.objs.size + 1) c1 c2 0 →
      (∀ c o, s.heap.get? c = some o → h'.get? c = some o) → Q (.ref (s.heap.objs.size + 4)) { s with heap := h' }) :
    wpAny (model prog w) A (call (.type "zip") [c1.val, c2.val]) Q E s := by
  refine callType_new F.called_zip (by decide) (F.typeCall_zip_2 _ _) (F.newCall_zip_2 _ _) (fun obj => F.args_object_init_3 obj _ _) F.entry_zip_new (zk_new c1 c2) ⟨hl1, hl2, ?_⟩
  have y1 : (s.heap.push c1.obj).objs.size = s.heap.objs.size + 1 := Heap.size_push ..
  have y2 : ((s.heap.push c1.obj).push c2.obj).objs.size = s.heap.objs.size + 2 := by rw [Heap.size_push, y1]
  have y3 : (zk3 s.heap c1 c2).objs.size = s.heap.objs.size + 3 := by rw [Heap.size_push, y2]
  have y4 : (zk4 s.heap c1 c2).objs.size = s.heap.objs.size + 4 := by rw [Heap.size_push, y3]
  have x5 : (zk5 s.heap c1 c2).get? (zk4 s.heap c1 c2).objs.size = some _ := Heap.get?_push_size _ rfl
  have x4 : (zk5 s.heap c1 c2).get? (zk3 s.heap c1 c2).objs.size = some _ := Heap.get?_push_of_some _ (Heap.get?_push_size _ rfl)
  have x3 : (zk5 s.heap c1 c2).get? ((s.heap.push c1.obj).push c2.obj).objs.size = some _ := Heap.get?_push_of_some _ (Heap.get?_push_of_some _ (Heap.get?_push_size _ rfl))
  have x2 : (zk5 s.heap c1 c2).get? (s.heap.push c1.obj).objs.size = some _ := Heap.get?_push_of_some _ (Heap.get?_push_of_some _ (Heap.get?_push_of_some _ (Heap.get?_push_size _ c2.alive)))
  have x1 : (zk5 s.heap c1 c2).get? s.heap.objs.size = some _ := Heap.get?_push_of_some _ (Heap.get?_push_of_some _ (Heap.get?_push_of_some _ (Heap.get?_push_of_some _ (Heap.get?_push_size _ c1.alive))))
  show _ ∧ _
  rw [y2, y3, y4] at x5
  rw [y1, y2] at x3
  rw [y3] at x4
  rw [y1] at x2
  rw [y4]
  exact ⟨⟨_, x5, rfl⟩, h _ ⟨x5, x3, ⟨_, _, x4⟩, Zk.it_new x1, Zk.it_new x2⟩ fun c o x => Heap.get?_push_of_some _ (Heap.get?_push_of_some _ (Heap.get?_push_of_some _ (Heap.get?_push_of_some _ (Heap.get?_push_of_some _ x))))⟩
end
def Zk.vs (K : PySem.W.Frag) (H : Hp) (xs : List V) : Zk → Prop
  | .lst l => SqL K H l xs
  | .tup l => SqT K H l xs
  | .str x _ => x.cps.all (· < 128) = true ∧ xs = x.cps.toList.map fun c => V.str ⟨#[c]⟩
section
variable {X : Cx} {pins : List (Addr × Obj)} {σ : L2.St} {H : Hp} {s : Shared} {c : Zk} {xs ys : List V} {i : Nat} {x : V}
theorem Zk.has_of (I : Inv X pins σ H s) (h : c.vs X.K H xs) (hx : xs[i]? = some x) : c.has s.heap i (RelV x) := by
  cases c with
  | lst l =>
    obtain ⟨its, rv, p, _⟩ := I.list h
    obtain ⟨u, hu, ru⟩ := rv.get hx
    exact ⟨its.toArray, u, p.isList, by simpa using hu, ru⟩
  | tup l =>
    obtain ⟨its, rv, p, _⟩ := I.tuple h
    obtain ⟨u, hu, ru⟩ := rv.get hx
    exact ⟨its.toArray, u, p, by simpa using hu, ru⟩
  | str z t =>
    obtain ⟨_, rfl⟩ := h
    rw [List.getElem?_map] at hx
    obtain ⟨ch, h1, rfl⟩ := Option.map_eq_some_iff.mp hx
    exact ⟨ch, by simpa using h1, fun t => ⟨t, rfl⟩⟩
theorem Zk.over_of (I : Inv X pins σ H s) (h : c.vs X.K H xs) (hx : xs.length ≤ i) : c.over s.heap i := by
  cases c with
  | lst l =>
    obtain ⟨its, rv, p, _⟩ := I.list h
    have := rv.length
    exact ⟨its.toArray, p.isList, by simp; omega⟩
  | tup l =>
    obtain ⟨its, rv, p, _⟩ := I.tuple h
    have := rv.length
    exact ⟨its.toArray, p, by simp; omega⟩
  | str z t =>
    obtain ⟨_, rfl⟩ := h
    rw [List.length_map, Array.length_toList] at hx
    exact Array.getElem?_eq_none hx
theorem Zk.here_of (I : Inv X pins σ H s) (h : c.vs X.K H xs) : c.here s.heap := by
  cases c with
  | lst l => obtain ⟨its, rv, p, _⟩ := I.list h; exact ⟨its.toArray, p.isList⟩
  | tup l => obtain ⟨its, rv, p, _⟩ := I.tuple h; exact ⟨its.toArray, p⟩
  | str z t => exact h.1
theorem Zk.vs_inj (I : Inv X pins σ H s) (h : c.vs X.K H xs) (h' : c.vs X.K H ys) : xs = ys := by
  cases c with
  | lst l => exact I.list_inj h h'
  | tup l => exact I.tuple_inj h h'
  | str z t => rw [h.2, h'.2]
theorem Zk.lt_of (I : Inv X pins σ H s) (h : c.vs X.K H xs) {a : Addr} (ha : s.heap.objs.size ≤ a) : c.ne a := by
  cases c with
  | lst l =>
    obtain ⟨its, rv, p, _⟩ := I.list h
    have := p.lt
    show l ≠ a
    exact Nat.ne_of_lt (Nat.lt_of_lt_of_le this ha)
  | tup l =>
    obtain ⟨its, rv, p, _⟩ := I.tuple h
    obtain ⟨o, ho, _⟩ := p
    show l ≠ a
    exact Nat.ne_of_lt (Nat.lt_of_lt_of_le (Heap.lt_size ho) ha)
  | str z t => exact True.intro
end
def Itk (K : PySem.W.Frag) (c1 c2 : Zk) : It :=
  ⟨fun i H => ∃ (xs ys : List V) (x y : V), c1.vs K H xs ∧ c2.vs K H ys ∧ xs[i]? = some x ∧ ys[i]? = some y,
    fun i H v H' => ∃ T x y, v = .ref T ∧ H T = none ∧ H' = upd H T (.tup [x, y]) ∧ (∀ xs, c1.vs K H xs → xs[i]? = some x) ∧ ∀ ys, c2.vs K H ys → ys[i]? = some y,
    fun i H => ∃ xs ys : List V, c1.vs K H xs ∧ c2.vs K H ys ∧ (xs.length ≤ i ∨ ys.length ≤ i)⟩
theorem turn_zk {P : Program} {w : World} {K : PySem.W.Frag} {elts : List Expr} {kk : Nat} {tpos : Pos} {z TI TO i1 i2 : Addr} {c1 c2 : Zk} (D : Zap z TI TO i1 i2) (n1 : c1.ne z) (n2 : c2.ne z ∧ c2.ne i1 ∧ c2.ne TO) :
    Turn P w K (.Tuple elts kk tpos) (Itk K c1 c2) [z, TI, TO, i1, i2] z (fun i h => Zst h z TI TO i1 i2 c1 c2 i) where
  mem := by simp
  obj := fun i h st c hc => by
    obtain ⟨hz, hTI, ⟨x, y, hTO⟩, q1, q2⟩ := st
    simp only [List.mem_cons, List.not_mem_nil, or_false] at hc
    rcases hc with rfl | rfl | rfl | rfl | rfl
    · exact ⟨_, hz, fun v q => nomatch q⟩
    · exact ⟨_, hTI, fun v q => nomatch q⟩
    · exact ⟨_, hTO, fun v q => nomatch q⟩
    · exact Zk.it_obj q1
    · exact Zk.it_obj q2
  keep := fun i h h' st k => by
    obtain ⟨hz, hTI, ⟨x, y, hTO⟩, h1, h2⟩ := st
    exact ⟨k z (by simp) _ hz, k TI (by simp) _ hTI, ⟨x, y, k TO (by simp) _ hTO⟩, Zk.it_at h1 fun o q => k i1 (by simp) o q, Zk.it_at h2 fun o q => k i2 (by simp) o q⟩
  item := by
    intro X hP hw hK hc i pins s σ H E I hf st hg
    subst hP hw hK
    obtain ⟨xs, ys, x, y, hqx, hqy, hx, hy⟩ := hg
    have hzl : z < s.heap.objs.size := Heap.lt_size st.1
    have hTI := st.2.1
    have hlt : ∀ c ∈ [z, TI, TO, i1, i2], c < s.heap.objs.size := fun c hcm => by
      obtain ⟨hz, hTI, ⟨x, y, hTO⟩, q1, q2⟩ := st
      simp only [List.mem_cons, List.not_mem_nil, or_false] at hcm
      rcases hcm with rfl | rfl | rfl | rfl | rfl
      · exact hzl
      · exact Heap.lt_size hTI
      · exact Heap.lt_size hTO
      · obtain ⟨_, e1, _⟩ := Zk.it_obj q1; exact Heap.lt_size e1
      · obtain ⟨_, e2, _⟩ := Zk.it_obj q2; exact Heap.lt_size e2
    refine zk_next D st n1 n2 (Zk.has_of I hqx hx) (Zk.has_of I hqy hy) fun h' tk u u2 ru ru2 z' TO' h1' h2' hT hk => ?_
    refine ⟨_, rfl, wpAny_letOwnedTupleGo_zip (s := { s with heap := h', toks := tk }) z' fun h'' z'' sb => ?_⟩
    have hT2 : h''.get? s.heap.objs.size = some { cls := .type "tuple", data := .seq #[u, u2] } := (sb.2 _ (Nat.ne_of_gt hzl)).trans hT
    have new : ObjOk X.prog X.w (upd H s.heap.objs.size (.tup [x, y])) h'' s.heap.objs.size (.tup [x, y]) := ⟨by show 2 ≤ sizeLine; decide, [u, u2], .cons ru (.cons ru2 .nil), ⟨_, hT2, rfl, _, rfl⟩⟩
    have I1 : Inv X pins σ (upd H s.heap.objs.size (.tup [x, y])) { s with heap := h'', toks := tk } :=
      I.turnedNew (t' := tk) (ch := [z, TI, TO, i1, i2]) (fun c o hb q => (sb.2 c (fun q' => hb (by simp [q']))).trans (hk c o (fun q' => hb (by simp [q'])) (fun q' => hb (by simp [q'])) (fun q' => hb (by simp [q'])) (fun q' => hb (by simp [q'])) q)) hf (Nat.le_refl _) new
    refine ⟨.ref s.heap.objs.size, _, I1, rfl, ⟨_, x, y, rfl, I.hok.fresh (Nat.le_refl _), rfl, fun l hl => by rw [Zk.vs_inj I hl hqx]; exact hx, fun l hl => by rw [Zk.vs_inj I hl hqy]; exact hy⟩, ⟨z'', ?_, ⟨u, u2, (sb.2 _ D.a2).trans TO'⟩, Zk.it_at h1' fun o q => (sb.2 _ D.a3).trans q, Zk.it_at h2' fun o q => (sb.2 _ D.a4).trans q⟩, fun c hcm => ?_⟩
    · exact (sb.2 _ D.a1).trans (hk _ _ D.a1 D.a5 D.a6 D.a7 hTI)
    · rw [upd_ne (Nat.ne_of_lt (hlt c hcm))]
      exact (hf c hcm).1
  done := by
    intro X hP hw hK hc i pins s σ H E I hf st hg
    subst hP hw hK
    obtain ⟨xs, ys, hqx, hqy, hend⟩ := hg
    have he : c1.over s.heap i ∨ (c1.has s.heap i (fun _ => True) ∧ c2.over s.heap i) := by
      by_cases hx : xs.length ≤ i
      · exact .inl (Zk.over_of I hqx hx)
      · have hx : i < xs.length := by omega
        have q := Zk.has_of I hqx (List.getElem?_eq_getElem hx)
        refine .inr ⟨?_, Zk.over_of I hqy (by omega)⟩
        cases c1 with
        | lst l => obtain ⟨a, b, e1, e2, _⟩ := q; exact ⟨a, b, e1, e2, trivial⟩
        | tup l => obtain ⟨a, b, e1, e2, _⟩ := q; exact ⟨a, b, e1, e2, trivial⟩
        | str x t => obtain ⟨a, e1, _⟩ := q; exact ⟨a, e1, fun _ => trivial⟩
    exact zk_done (I.ok.hd hc) D st n1 n2 he fun h' tk hk => ⟨rfl, I.turnedL (t' := tk) (ch := [z, TI, TO, i1, i2]) (fun c o hb q => hk c o (fun q' => hb (by simp [q'])) (fun q' => hb (by simp [q'])) (fun q' => hb (by simp [q'])) (fun q' => hb (by simp [q'])) q) hf⟩
  self := fun A i s Q E st h => wpAny_pyIter_zip st.1 h
inductive Zv where
  | lst | tup | str
def Zv.of : Zv → V → Tok → Zk
  | .lst, .ref l, _ => .lst l
  | .tup, .ref l, _ => .tup l
  | _, .str x, t => .str x t
  | _, _, t => .str ⟨#[]⟩ t
def iZk (K : PySem.W.Frag) (ta : TA) : TI := fun σ H R => ta σ H fun vs H1 => ∃ (a b : V) (k1 k2 : Zv), vs = [a, b] ∧ ((∀ l, a = .ref l → k1 ≠ .str) ∧ (∀ l, b = .ref l → k2 ≠ .str) ∧ ((∃ l, a = .ref l) ∨ ∃ x, a = .str x) ∧ ((∃ l, b = .ref l) ∨ ∃ x, b = .str x)) ∧
  ∃ xs ys, (∀ t, (k1.of a t).vs K H1 xs) ∧ (∀ t, (k2.of b t).vs K H1 ys) ∧ ∀ t t', R (Itk K (k1.of a t) (k2.of b t')) H1
theorem zv_val {k : Zv} {a : V} {u : Value} (h1 : ∀ l, a = .ref l → k ≠ .str) (h2 : (∃ l, a = .ref l) ∨ ∃ x, a = .str x) (r : RelV a u) : ∃ t, (k.of a t).val = u := by
  rcases h2 with ⟨l, rfl⟩ | ⟨x, rfl⟩
  · cases r
    cases k with
    | lst => exact ⟨0, rfl⟩
    | tup => exact ⟨0, rfl⟩
    | str => exact absurd rfl (h1 l rfl)
  · obtain ⟨t, rfl⟩ := r
    exact ⟨t, by cases k <;> rfl⟩
theorem pi_zk {X : Cx} {e e2 : Expr} {ta : TA} {p pos tpos : Pos} {elts : List Expr} {kk : Nat} (hg : Gl X "zip") (hm : X.mg "zip" = none) (ha : PA X [e, e2] ta)
    (hs : starEach [e, e2] X.env = (false, eval e X.env) :: starEach [e2] X.env) (hpl : (backTo pos (starEach [e2] X.env)).any (·.1) = false) :
    PI X (.Tuple elts kk tpos) (.Call (.Name "zip" p) [e, e2] [] pos) (iZk X.K ta) := by
  refine ⟨fun pins s σ H R I h => Call_ (ld_blt I hg hm PyProof.Rows.boot_zip (PyProof.Rows.callWith_type1 (thn (ha.run pos pins s σ H _ I h) fun us s1 ⟨vs, H1, I1, r1, q1⟩ => ?_) hs hpl))⟩
  obtain ⟨a, b, k1, k2, rfl, ⟨w1, w2, w3, w4⟩, xs, ys, hx, hy, q⟩ := q1
  cases r1 with
  | cons r rr =>
    cases rr with
    | cons r' rr =>
      cases rr
      obtain ⟨t, rfl⟩ := zv_val w1 w3 r
      obtain ⟨t', rfl⟩ := zv_val w2 w4 r'
      have fresh5 : ∀ c, c ∈ [s1.heap.objs.size + 4, s1.heap.objs.size + 2, s1.heap.objs.size + 3, s1.heap.objs.size, s1.heap.objs.size + 1] → FpOk X pins H1 c := fun c hcm => by
        have hle : s1.heap.objs.size ≤ c := by
          simp only [List.mem_cons, List.not_mem_nil, or_false] at hcm
          rcases hcm with z | z | z | z | z <;> (rw [z]; first | exact Nat.le_add_right _ _ | exact Nat.le_refl _)
        exact I1.fpOk hle (I1.hok.fresh hle)
      refine zk_call (k1.of a t) (k2.of b t') (Zk.here_of I1 (hx t)) (Zk.here_of I1 (hy t')) fun h' st hk => wpAny_pyIter_zip st.1 ?_
      have I2 : Inv X pins σ H1 { s1 with heap := h' } := I1.kept (t' := s1.toks) hk
      refine ⟨s1.heap.objs.size + 4, [s1.heap.objs.size + 4, s1.heap.objs.size + 2, s1.heap.objs.size + 3, s1.heap.objs.size, s1.heap.objs.size + 1], _, _, H1, rfl, I2, turn_zk ?_ (Zk.lt_of I1 (hx t) (Nat.le_add_right _ _)) ⟨Zk.lt_of I1 (hy t') (Nat.le_add_right _ _), Zk.lt_of I1 (hy t') (Nat.le_refl _), Zk.lt_of I1 (hy t') (Nat.le_add_right _ _)⟩, st, fresh5, q t t'⟩
      constructor <;> (intro z; have z : (_ : Nat) = _ := z; omega)
end Mf
set_option Elab.async false
set_option linter.all false
set_option maxRecDepth 100000
set_option maxHeartbeats 1000000
namespace Mf
open PySem L2

section
variable {X : Cx} {Y : Sys} {W : WX} {n : Nat} {N : List Str} {sc : Scope} {pos p p2 : Pos} {a' b' c' : Expr} {a b e : CE Y.S}
theorem Cxt.gl (C : Cxt X W n N sc) {x : Str} (h : glB sc x = true) : Gl X x := by
  unfold Gl Env.kindOf
  rw [C.hs]
  exact (glB_ok h).1
theorem Cxt.bltn (C : Cxt X W n N sc) {x : Str} (h : bltNames.contains x = true) : X.mg x = none := C.blt x (List.contains_iff_mem.mp h)
theorem se_call {x : Str} {m : Nat} {g : Sem Y.S} {es : List Expr} {cs : CA Y.S} (C : Cxt X W n N sc) (hg : glB sc x = true) (hx : HasF X.prog X.w X.K X.mg X.base Y n x m g) (hc : chkA N sc cs es = true) (ha : PA X es (tA X.K X.mg W cs)) : PE X (.Call (.Name x p) es [] pos) (tE X.K X.mg W (.call x m g cs)) := by
  obtain ⟨f, fd, ps, hl, F, hm, hk, hb⟩ := hx
  obtain ⟨E, hE⟩ := C.we
  have tk : Takes X (fun cls d _ H => E cls d H) := by rw [← hE]; exact C.tk
  have ps' : Passes (L2.CX X.prog X.w) X E := passes_call tk fun _ _ _ _ z => z
  have hdb := (glB_ok hg).2.1
  have go : ∀ σ H Q, tE X.K X.mg W (.call x m g cs) σ H Q → tCall (spOf (Y := Y) X.K X.mg m g) [] E (tA X.K X.mg W cs) σ H Q := fun σ H Q h => by
    obtain ⟨c, H0, ρ, rfl, ok, rel, p⟩ := h
    have p : Post X.mg W σ c (JE X.K c) Q ((evA cs ρ c.s).bind fun ds s => if ds.length = m then (g ds s).bind fun d s => .ok (.v, d) s else .er) := p
    refine tR.bind ok rel p fun vs c1 ds ea t1 ok1 rel1 j1 p1 => ?_
    have j1 : Reps X.K c1.F vs ds := j1
    have p1 := p1.shiftE t1 ok1
    split at p1
    · rename_i hd
      rw [List.append_nil]
      refine ⟨c1, ds, rfl, ok1, j1, by rw [j1.length]; exact hd, ?_⟩
      cases er : g ds c1.s with
      | ok d s' =>
        rw [er] at p1
        exact fun v c2 es t2 ok2 r2 => p1 v c2 es t2 ok2 r2
      | ex y s' =>
        rw [er] at p1
        intro C' c2 e1 e2 t2 ok2
        have q := p1 C' c2 e1 e2 t2 ok2
        rw [hE] at q
        exact q
      | er => rw [er] at p1; exact p1
    · exact p1.elim
  cases es with
  | nil =>
    cases cs with
    | nil =>
      refine (pe_call0 F C.room (C.gl hg) hm hk hb .nil ps' hdb).weak fun σ H Q h => ?_
      obtain ⟨c, H0, ρ, rfl, ok, rel, p⟩ := h
      have p : Post X.mg W σ c (JE X.K c) Q (if ([] : List D).length = m then (g [] c.s).bind fun d s => .ok (.v, d) s else .er) := p
      split at p
      · rename_i hd
        refine ⟨c, [], rfl, ok, .nil, hd, ?_⟩
        cases er : g [] c.s with
        | ok d s' =>
          rw [er] at p
          exact fun v c2 es t2 ok2 r2 => p v c2 es t2 ok2 r2
        | ex y s' =>
          rw [er] at p
          intro C' c2 e1 e2 t2 ok2
          have q := p C' c2 e1 e2 t2 ok2
          rw [hE] at q
          exact q
        | er => rw [er] at p; exact p
      · exact p.elim
    | cons _ _ => cases hc
  | cons e1 es =>
    cases cs with
    | nil => cases hc
    | cons k ks =>
      unfold chkA at hc
      simp only [Bool.and_eq_true] at hc
      exact (pe_call F C.room (C.gl hg) hm hk hb .nil ps' ha hdb (star_cons hc.1.1 _ _) (star_none hc.2)).weak go
theorem se_fld {f : Str} {g : Sem Y.S} (C : Cxt X W n N sc) (hx : FldOk X.K Y f g) (hn : nmE a' = true) (ha : PE X a' (tE X.K X.mg W a)) : PE X (.Attribute a' f pos) (tE X.K X.mg W (.fld a f g)) := by
  have hb : attributeBase a' f X.env (eval a' X.env) = eval a' X.env := by
    cases a' <;> first | rfl | cases hn
  refine (pe_fld ha hb).weak fun σ H Q h => ?_
  obtain ⟨c, H0, ρ, rfl, ok, rel, p⟩ := h
  have p : Post X.mg W σ c (JE X.K c) Q ((ev a ρ c.s).bind fun x s => onV x s fun d s => quiet s (fun d' => .ok (.v, d') s) (g [d] s)) := p
  refine tR.bind ok rel p fun v c1 xd ea t1 ok1 rel1 j1 p1 => ?_
  have p1 := p1.shiftE t1 ok1
  obtain ⟨k, d⟩ := xd
  cases k with
  | v =>
    have j1 : Rep X.K c1.F v d := j1
    have p1 : Post X.mg W σ c1 (JE X.K c1) Q (quiet c1.s (fun d' => .ok (.v, d') c1.s) (g [d] c1.s)) := p1
    cases er : g [d] c1.s with
    | ok d' s' =>
      rw [er] at p1
      obtain ⟨b, C', dx, fs, u, rfl, h1, h2, h3, h4, h5⟩ := hx c1 v d d' s' ok1 j1 er
      exact ⟨b, C', dx, fs, u, rfl, h1, h2, h3, h4, Post.fin (b := u) p1 ok1 h5⟩
    | ex y s' => rw [er] at p1; exact p1.elim
    | er => rw [er] at p1; exact p1.elim
  | t => exact p1.elim
  | o => exact p1.elim
theorem meth_form {S : Type} {N : List Str} {sc : Scope} {cs : CA S} {es : List Expr} {env : Env} {o : Expr} {x : Str} {apos cpos : Pos} (hc : chkA N sc cs es = true) (hn : nmE o = true) (h29 : es.length < 29) (hl : (apos.endLine == cpos.line) = true) :
    eval (.Call (.Attribute o x apos) es [] cpos) env = (do
      let ov ← eval o env
      standAt apos.atName
      let (f, first) ← holding [ov] (getMethod ov x (do return (← importBound o env).getD true))
      callWith cpos f first (backTo cpos (starEach es env)) (backToKw cpos (keywordEach [] env))) := by
  have hb : attributeBase o x env (eval o env) = eval o env := by
    cases o <;> first | rfl | cases hn
  have hf : methodCallForm (es.length + ([] : List Keyword).length) (backTo cpos (starEach es env)) (backToKw cpos (keywordEach [] env)) = true := by
    have h1 := star_none (pos := cpos) (env := env) hc
    unfold methodCallForm
    rw [Bool.and_eq_true, Bool.and_eq_true]
    refine ⟨⟨?_, rfl⟩, ?_⟩
    · rw [List.any_eq_false] at h1
      rw [List.all_eq_true]
      intro y hy
      have := h1 y hy
      cases e : y.1 with
      | true => exact absurd e this
      | false => rfl
    · show decide (es.length + 0 + 0 < 30) = true
      exact decide_eq_true (by omega)
  show (do
      let ov ← attributeBase o x env (eval o env)
      standAt apos.atName
      methodCall o x apos cpos env ov (es.length + ([] : List Keyword).length) (backTo cpos (starEach es env)) (backToKw cpos (keywordEach [] env))) = _
  rw [hb]
  unfold methodCall methodCallPos calleeOf
  rw [hf, hl]
  rfl
theorem se_mcl {x : Str} {m : Nat} {ck g : Sem Y.S} {es : List Expr} {cs : CA Y.S} {apos : Pos} (C : Cxt X W n N sc) (hi : InsOk X.K X.mg Y ck) (hx : MethOk X.prog X.w X.K X.mg X.base Y n x m g) (hn : nmE a' = true) (ha : PE X a' (tE X.K X.mg W a)) (hc : chkA N sc cs es = true) (h29 : es.length < 29) (hal : (apos.endLine == pos.line) = true) (hes : PA X es (tA X.K X.mg W cs)) :
    PE X (.Call (.Attribute a' x apos) es [] pos) (tE X.K X.mg W (.mcl a x m ck g cs)) := by
  obtain ⟨hf, C1, f, fd, ps, hC1, hme, hl, F, hb⟩ := hx
  obtain ⟨C2, hC2, hcl, hin⟩ := hi
  obtain rfl : C1 = C2 := by rw [hC1] at hC2; cases hC2; rfl
  obtain ⟨E, hE⟩ := C.we
  have tk : Takes X (fun cls d _ H => E cls d H) := by rw [← hE]; exact C.tk
  have ps' : Passes (L2.CX X.prog X.w) X E := passes_call tk fun _ _ _ _ z => z
  have go : ∀ (t : TA), (∀ σ H Q, tA X.K X.mg W cs σ H Q → t σ H Q) → ∀ σ H Q, tE X.K X.mg W (.mcl a x m ck g cs) σ H Q → tMeth C1 x (spOf (Y := Y) X.K X.mg m g) [] E (tE X.K X.mg W a) t σ H Q := fun t ht σ H Q h => by
    obtain ⟨c, H0, ρ, rfl, ok, rel, p⟩ := h
    have p : Post X.mg W σ c (JE X.K c) Q ((ev a ρ c.s).bind fun x s => onV x s fun d s => quiet s (fun _ => (evA cs ρ s).bind fun ds s => if ds.length + 1 = m then (g (d :: ds) s).bind fun d s => .ok (.v, d) s else .er) (ck [d] s)) := p
    refine tR.bind ok rel p fun v c1 xd ea t1 ok1 rel1 j1 p1 => ?_
    have p1 := p1.shiftE t1 ok1
    obtain ⟨k, d⟩ := xd
    cases k with
    | t => exact p1.elim
    | o => exact p1.elim
    | v =>
      have j1 : Rep X.K c1.F v d := j1
      have p1 : Post X.mg W σ c1 (JE X.K c1) Q (quiet c1.s (fun _ => (evA cs ρ c1.s).bind fun ds s => if ds.length + 1 = m then (g (d :: ds) s).bind fun d s => .ok (.v, d) s else .er) (ck [d] c1.s)) := p1
      cases ec : ck [d] c1.s with
      | er => rw [ec] at p1; exact p1.elim
      | ex y s' => rw [ec] at p1; exact p1.elim
      | ok d' s' =>
        rw [ec] at p1
        have p1 : Post X.mg W σ c1 (JE X.K c1) Q ((evA cs ρ c1.s).bind fun ds s => if ds.length + 1 = m then (g (d :: ds) s).bind fun d s => .ok (.v, d) s else .er) := p1
        obtain ⟨b, dx, fs, rfl, h1, h2⟩ := hin c1 v d d' s' ok1 j1 ec
        refine ⟨b, dx, fs, rfl, h1, h2 x hf, ht _ _ _ ?_⟩
        refine tR.bind ok1 rel1 p1 fun vs c2 ds eds t2 ok2 rel2 j2 p2 => ?_
        have j2 : Reps X.K c2.F vs ds := j2
        have p2 := p2.shiftE t2 ok2
        split at p2
        · rename_i hd
          rw [List.append_nil]
          refine ⟨c2, d :: ds, rfl, ok2, .cons (j1.mono t2.f) j2, by rw [List.length_cons, j2.length]; exact hd, ?_⟩
          cases er : g (d :: ds) c2.s with
          | ok d' s' =>
            rw [er] at p2
            exact fun v c3 es t3 ok3 r3 => p2 v c3 es t3 ok3 r3
          | ex y s' =>
            rw [er] at p2
            intro C' c3 e1 e2 t3 ok3
            have q := p2 C' c3 e1 e2 t3 ok3
            rw [hE] at q
            exact q
          | er => rw [er] at p2; exact p2
        · exact p2.elim
  have hform := meth_form (x := x) (env := X.env) hc hn h29 hal
  cases es with
  | nil =>
    cases cs with
    | nil =>
      refine (pe_meth0 ha hcl hme F C.room hb .nil ps' hform).weak (go _ fun σ H Q h => ?_)
      obtain ⟨c, H0, ρ, rfl, ok, rel, p⟩ := h
      have p : Post X.mg W σ c (JA X.K c) Q (.ok [] c.s) := p
      exact Post.fin (b := []) p ok .nil
    | cons _ _ => cases hc
  | cons e1 es =>
    cases cs with
    | nil => cases hc
    | cons k ks =>
      unfold chkA at hc
      simp only [Bool.and_eq_true] at hc
      exact (pe_meth ha hcl hme F C.room hb .nil ps' hes (star_cons hc.1.1 _ _) (star_none hc.2) hform).weak (go _ fun _ _ _ h => h)
theorem pe_call1 {x : Str} {u : Value} {r : List V → Hp → VK → Prop} {t : TA} (hc : CallR X u r) (hu : (∃ id, u = .builtin id) ∨ ∃ T, u = .type T) (hg : Gl X x) (hm : X.mg x = none) (hv : bootBuiltins x = some u) (hn : x ≠ "__name__") (hdb : (x == ("__debug__" : Str)) = false) {es : List Expr} (ha : PA X (a' :: es) t) (hs : notStar a' = true)
    (hp : (backTo pos (starEach es X.env)).any (·.1) = false) : PE X (.Call (.Name x p) (a' :: es) [] pos) (tCB r t) := by
  rcases hu with ⟨id, rfl⟩ | ⟨T, rfl⟩
  · exact pe_callB hc hg hm hv ha hn hdb (star_cons hs _ _) hp
  · exact pe_callTy hc hg hm hv ha hn hdb (star_cons hs _ _) hp
theorem vlB_or (f : B1) : (∃ id, vlB f = .builtin id) ∨ ∃ T, vlB f = .type T := by
  cases f <;> first | exact .inl ⟨_, rfl⟩ | exact .inr ⟨_, rfl⟩
theorem boot_1 (f : B1) : bootBuiltins (nmB f) = some (vlB f) := by
  cases f <;> decide +kernel
theorem in_1 (f : B1) : bltNames.contains (nmB f) = true := by
  cases f <;> decide +kernel
theorem se_b1 {f : B1} (C : Cxt X W n N sc) (hg : glB sc (nmB f) = true) (hs : notStar a' = true) (ha : PE X a' (tE X.K X.mg W a)) : PE X (.Call (.Name (nmB f) p) [a'] [] pos) (tE X.K X.mg W (.b1 f a)) := by
  refine (pe_call1 (call_1 C.room C.calm f) (vlB_or f) (C.gl hg) (C.bltn (in_1 f)) (boot_1 f) (glB_ok hg).2.2 (glB_ok hg).2.1 (pa_cons ha pa_nil (star_cons hs _ _)) hs rfl).weak fun σ H Q h => ?_
  obtain ⟨c, H0, ρ, rfl, ok, rel, p⟩ := h
  have p : Post X.mg W σ c (JE X.K c) Q ((ev a ρ c.s).bind fun x s => liftO s (b1D f x.2)) := p
  refine tR.bind ok rel p fun x c1 xa ea t1 ok1 rel1 j1 p1 => ?_
  obtain ⟨k, d, e, q⟩ := (p1.shiftE t1 ok1).lift
  exact b1_use ok1 j1 e q
theorem few_ok {cpos : Pos} {e' : Expr} (hs : notStar e' = true) : ((backTo cpos (starEach [e'] X.env)).all (fun x => !x.1) && (backToKw cpos (keywordEach [] X.env)).all (fun x => x.1.isSome) && decide ([e'].length + ([] : List Keyword).length + (if ([] : List Keyword).isEmpty then 0 else 1) < 30)) = true := by
  rw [star_cons hs]
  rfl
theorem rcv_base {o : Expr} {m : Str} (h : rcvE o = true) : attributeBase o m X.env (eval o X.env) = eval o X.env := by
  cases o <;> first | rfl | cases h
theorem pe_bmM (f : M1) {o : Expr} {apos cpos : Pos} {to : TE} {t : TA} {r : V → List V → Hp → VK → Prop} (hm : MtR X (idM f) r) (ho : PE X o to) (ha : PA X [a'] t) (hr : rcvE o = true) (hs : notStar a' = true) (hl : (apos.endLine == cpos.line) = true) :
    PE X (.Call (.Attribute o (nmM f) apos) [a'] [] cpos) (tBM X.K (tyM f) r to t) := by
  cases f with
  | sindex => exact pe_bm PySem.F.plainAttrs_str PySem.F.slot_str_index PySem.F.type_str_index hm ho ha (rcv_base hr) (few_ok hs) hl (star_cons hs _ _) rfl
  | lindex => exact pe_bm PySem.F.plainAttrs_list PySem.F.slot_list_index PySem.F.type_list_index hm ho ha (rcv_base hr) (few_ok hs) hl (star_cons hs _ _) rfl
  | sjoin => exact pe_bm PySem.F.plainAttrs_str PySem.F.slot_str_join PySem.F.type_str_join hm ho ha (rcv_base hr) (few_ok hs) hl (star_cons hs _ _) rfl
  | sfind => exact pe_bm PySem.F.plainAttrs_str PySem.F.slot_str_find PySem.F.type_str_find hm ho ha (rcv_base hr) (few_ok hs) hl (star_cons hs _ _) rfl
  | lcount => exact pe_bm PySem.F.plainAttrs_list PySem.F.slot_list_count PySem.F.type_list_count hm ho ha (rcv_base hr) (few_ok hs) hl (star_cons hs _ _) rfl
theorem se_m1 {f : M1} {apos cpos : Pos} (C : Cxt X W n N sc) (hr : rcvE a' = true) (hs : notStar b' = true) (hl : (apos.endLine == cpos.line) = true) (ha : PE X a' (tE X.K X.mg W a)) (hb : PE X b' (tE X.K X.mg W b)) :
    PE X (.Call (.Attribute a' (nmM f) apos) [b'] [] cpos) (tE X.K X.mg W (.m1 f a b)) := by
  refine (pe_bmM f (mt_M C.room f) ha (pa_cons hb pa_nil (star_cons hs _ _)) hr hs hl).weak fun σ H Q h => ?_
  obtain ⟨c, H0, ρ, rfl, ok, rel, p⟩ := h
  have p : Post X.mg W σ c (JE X.K c) Q ((ev a ρ c.s).bind fun x s => if rcvD f x.2 then (ev b ρ s).bind fun y s => liftO s (m1D f x.2 y.2) else .er) := p
  refine tR.bind ok rel p fun x c1 xa ea t1 ok1 rel1 j1 p1 => ?_
  have p1 := p1.shiftE t1 ok1
  split at p1
  · rename_i hrc
    refine ⟨rcv_ty ok1 j1 hrc, ?_⟩
    refine tR.bind ok1 rel1 p1 fun y c2 xb eb t2 ok2 rel2 j2 p2 => ?_
    obtain ⟨k, d, e, q⟩ := (p2.shiftE t2 ok2).lift
    exact m1_use ok2 (Is.step j1 t2) j2 e q
  · exact p1.elim
theorem boot_T (t : Ty) : bootBuiltins (Str.ofString (nmT t)) = some (.type (nmT t)) := by
  cases t <;> decide +kernel
theorem in_T (t : Ty) : bltNames.contains (Str.ofString (nmT t)) = true := by
  cases t <;> decide +kernel
theorem se_isi {t : Ty} {p3 : Pos} (C : Cxt X W n N sc) (hg : glB sc "isinstance" = true) (hg2 : glB sc (Str.ofString (nmT t)) = true) (hs : notStar a' = true) (ha : PE X a' (tE X.K X.mg W a)) : PE X (.Call (.Name "isinstance" p) [a', .Name (Str.ofString (nmT t)) p2] [] pos) (tE X.K X.mg W (.isi a t)) := by
  have hT : PE X (.Name (Str.ofString (nmT t)) p2) (tC (.ty (nmT t))) := pe_bltn (C.gl hg2) (C.bltn (in_T t)) (boot_T t) rfl (glB_ok hg2).2.2 (glB_ok hg2).2.1
  refine (pe_call1 call_isi (.inl ⟨_, rfl⟩) (C.gl hg) (C.bltn (by decide +kernel)) (by decide +kernel) (glB_ok hg).2.2 (glB_ok hg).2.1 (pa_cons ha (pa_cons hT pa_nil) (star_cons hs _ _)) hs rfl).weak fun σ H Q h => ?_
  obtain ⟨c, H0, ρ, rfl, ok, rel, p⟩ := h
  have p : Post X.mg W σ c (JE X.K c) Q ((ev a ρ c.s).bind fun x s => kd s ((isiD t x.2).map .bl)) := p
  refine tR.bind ok rel p fun x c1 xa ea t1 ok1 rel1 j1 p1 => ?_
  obtain ⟨d, e, q⟩ := (p1.shiftE t1 ok1).kd
  obtain ⟨r, e1, e2⟩ := Option.map_eq_some_iff.mp e
  subst e2
  exact isi_use ok1 j1 e1 (q.here ok1 (.bl r))
theorem se_isl {k : Nat} {p3 p4 : Pos} (C : Cxt X W n N sc) (hg : glB sc "isinstance" = true) (hg1 : glB sc "list" = true) (hg2 : glB sc "dict" = true) (hs : notStar a' = true) (ha : PE X a' (tE X.K X.mg W a)) : PE X (.Call (.Name "isinstance" p) [a', .Tuple [.Name "list" p2, .Name "dict" p3] k p4] [] pos) (tE X.K X.mg W (.isl a)) := by
  have hT1 : PE X (.Name "list" p2) (tC (.ty "list")) := pe_bltn (C.gl hg1) (C.bltn (by decide +kernel)) (by decide +kernel) rfl (glB_ok hg1).2.2 (glB_ok hg1).2.1
  have hT2 : PE X (.Name "dict" p3) (tC (.ty "dict")) := pe_bltn (C.gl hg2) (C.bltn (by decide +kernel)) (by decide +kernel) rfl (glB_ok hg2).2.2 (glB_ok hg2).2.1
  refine (pe_call1 call_isiT (.inl ⟨_, rfl⟩) (C.gl hg) (C.bltn (by decide +kernel)) (by decide +kernel) (glB_ok hg).2.2 (glB_ok hg).2.1 (pa_cons ha (pa_cons (pe_tup (x1 := k) (pos := p4) (pa_cons hT1 (pa_cons hT2 pa_nil))) pa_nil) (star_cons hs _ _)) hs rfl).weak fun σ H Q h => ?_
  obtain ⟨c, H0, ρ, rfl, ok, rel, p⟩ := h
  have p : Post X.mg W σ c (JE X.K c) Q ((ev a ρ c.s).bind fun x s => kd s ((isiD .list x.2).map .bl)) := p
  refine tR.bind ok rel p fun x c1 xa ea t1 ok1 rel1 j1 p1 => ?_
  obtain ⟨d, e, q⟩ := (p1.shiftE t1 ok1).kd
  obtain ⟨r, e1, e2⟩ := Option.map_eq_some_iff.mp e
  subst e2
  refine ⟨(by show 2 ≤ sizeLine; decide), fun tp htp => ?_⟩
  have ok2 := ok1.own htp (.tup [.ty "list", .ty "dict"])
  have t2 := Step.own ok1 htp (.tup [.ty "list", .ty "dict"])
  exact isl_use (c := ⟨c1.F, upd c1.H tp (.tup [.ty "list", .ty "dict"]), c1.s, c1.g⟩) ok2 (Is.step j1 t2) e1 upd_same (q (.bl r) _ rfl t2 ok2 (show Rep X.K c1.F (.bl r) (.bl r) from .bl r))
def rIsX (K : PySem.W.Frag) : List V → Hp → VK → Prop := fun xs H Q => ∃ (a C : Addr) (cV : V) (cv : Value) (b : Bool), xs = [.ref a, cV] ∧ H a = some (.ext (excP a C)) ∧ ExcC K C ∧ (∀ u, RelV cV u → u = cv) ∧ PySem.W.kitOne K (.ref C) cv = some b ∧ Q (.bl b) H
theorem call_isX : CallR X (.builtin "isinstance") (rIsX X.K) := by
  intro pins s σ H xs us Q I r h
  obtain ⟨a, C, cV, cv, b, rfl, hH, ec, hcv, e, q⟩ := h
  cases r with
  | cons rx rr =>
    cases rr with
    | cons rt rr =>
      cases rr
      cases rx
      have ec' := hcv _ rt
      subst ec'
      obtain ⟨⟨⟨oc, od, oda, osl⟩, vs, hget, h1, h2, h3⟩, _⟩ := I.hok a _ hH
      dsimp only at h1 h2 h3
      subst h1 h2 h3
      have J : PySem.W.InstAt s.heap a _ C none := ⟨hget, rfl, rfl, trivial⟩
      exact PySem.W.kia_one (PySem.W.handS_kitx_exc ec.hg ec.hk ec.hs ec.hd ec.ha ec.hn ec.ht ec.hm) I.kIn J e (fun z => nomatch z) fun tk => ⟨.bl b, H, I.kept (t' := tk) fun _ _ z => z, rfl, q⟩
theorem se_isx {y : Option Str} (C : Cxt X W n N sc) (gx : Glb X.K X.mg (nmX y) d_EXC) (hg : glB sc "isinstance" = true) (hg2 : glB sc (nmX y) = true) (hy : okX y = true) (hs : notStar a' = true) (ha : PE X a' (tE X.K X.mg W a)) : PE X (.Call (.Name "isinstance" p) [a', .Name (nmX y) p2] [] pos) (tE X.K X.mg W (.isx a y)) := by
  obtain ⟨M, hM, all⟩ := gx.exc.all
  have use : ∀ (cV : V) (cv : Value), (∀ u, RelV cV u → u = cv) → (∀ x C', excNames.contains x = true → Exc1 X.K X.mg x C' M → ∀ r, isxD y (.exn x) = some r → PySem.W.kitOne X.K (.ref C') cv = some r) → PE X (.Name (nmX y) p2) (tC cV) →
      PE X (.Call (.Name "isinstance" p) [a', .Name (nmX y) p2] [] pos) (tE X.K X.mg W (.isx a y)) := fun cV cv hu hk hT => by
    refine (pe_call1 call_isX (.inl ⟨_, rfl⟩) (C.gl hg) (C.bltn (by decide +kernel)) (by decide +kernel) (glB_ok hg).2.2 (glB_ok hg).2.1 (pa_cons ha (pa_cons hT pa_nil) (star_cons hs _ _)) hs rfl).weak fun σ H Q h => ?_
    obtain ⟨c, H0, ρ, rfl, ok, rel, p⟩ := h
    have p : Post X.mg W σ c (JE X.K c) Q ((ev a ρ c.s).bind fun x s => kd s ((isxD y x.2).map .bl)) := p
    refine tR.bind ok rel p fun x c1 xa ea t1 ok1 rel1 j1 p1 => ?_
    obtain ⟨d, e, q⟩ := (p1.shiftE t1 ok1).kd
    obtain ⟨r, e1, e2⟩ := Option.map_eq_some_iff.mp e
    subst e2
    obtain ⟨k1, a1⟩ := xa
    have e1 : isxD y a1 = some r := e1
    have hd : ∃ z, a1 = .exn z ∧ excNames.contains z = true := by
      unfold isxD at e1
      split at e1
      · split at e1
        · exact ⟨_, rfl, by assumption⟩
        · cases e1
      · split at e1
        · rename_i hc
          exact ⟨_, rfl, (Bool.and_eq_true_iff.mp hc).1⟩
        · cases e1
      · cases e1
    obtain ⟨z, rfl, hz⟩ := hd
    have j1 : Is X.K c.H c1 k1 x (.exn z) := j1
    have rp : Rep X.K c1.F x (.exn z) := by
      cases k1 with
      | v => exact j1
      | t => obtain ⟨_, _, o, _⟩ := j1; exact o.1.elim
      | o => obtain ⟨_, _, o⟩ := j1; exact o.1.elim
    cases rp with
    | @exn aa CC _ hn hF =>
      obtain ⟨C', x1⟩ := all z (List.contains_iff_mem.mp hz) (.inr (by rw [hn]; exact fun z => nomatch z))
      have : CC = C' := by
        have := hn.symm.trans x1.ns
        cases this
        rfl
      subst this
      exact ⟨aa, CC, cV, cv, r, rfl, ok1.sub _ _ hF, x1.ec, hu, hk z CC hz x1 r e1, q.here ok1 (.bl r)⟩
  cases y with
  | none =>
    refine use (.ty "ValueError") (.type "ValueError") (fun u h => h) (fun x C' hx x1 r e => ?_) (pe_bltn (C.gl hg2) (C.bltn (by decide +kernel)) (by decide +kernel) rfl (glB_ok hg2).2.2 (glB_ok hg2).2.1)
    have e : (if excNames.contains x = true then some true else none) = some r := e
    rw [if_pos hx] at e
    cases e
    exact x1.ve
  | some y =>
    have hy : excNames.contains y = true := hy
    obtain ⟨Cy, xy⟩ := all y (List.contains_iff_mem.mp hy) (.inl (gx.pre hy))
    refine use (.ref Cy) (.ref Cy) (fun u h => h) (fun x C' hx x1 r e => ?_) (pe_glob (X := X) (x := y) (C.gl hg2) xy.gm rfl (glB_ok hg2).2.1)
    have e : (if (excNames.contains x && excNames.contains y) = true then some (x == y) else none) = some r := e
    rw [hx, hy, if_pos (by rfl)] at e
    cases e
    exact x1.is y (List.contains_iff_mem.mp hy) Cy xy.ns
end

section
variable {Y : Sys} {K : PySem.W.Frag} {G : Cf Y → Prop} {z : Bool}
theorem gd_lst {q : Addr} {ds : List D} (h : ∀ c, G c → Ok c → ∃ vs, c.H q = some (.lst vs) ∧ Reps K c.F vs ds) : Gd K z (Itl K q) G ds := by
  intro c hG ok i
  obtain ⟨vs, e, r⟩ := h c hG ok
  refine ⟨fun hi => ⟨vs, .inl (.inl e), by rw [r.length]; exact hi⟩, fun d hd => ?_⟩
  obtain ⟨v, hv, rv⟩ := r.get hd
  refine ⟨⟨vs, v, .inl (.inl e), hv⟩, fun x H' hy => ?_⟩
  obtain ⟨rfl, hy⟩ := hy
  have ex : x = v := Option.some.inj ((hy vs (.inl (.inl e))).symm.trans hv)
  subst ex
  exact ⟨c, rfl, rfl, Step.refl c, ok, .inl rv⟩
theorem gd_tup {q : Addr} {ds : List D} (h : ∀ c, G c → Ok c → ∃ vs, SqT K c.H q vs ∧ Reps K c.F vs ds) : Gd K z (Itt K q) G ds := by
  intro c hG ok i
  obtain ⟨vs, e, r⟩ := h c hG ok
  refine ⟨fun hi => ⟨vs, e, by rw [r.length]; exact hi⟩, fun d hd => ?_⟩
  obtain ⟨v, hv, rv⟩ := r.get hd
  refine ⟨⟨vs, v, e, hv⟩, fun x H' hy => ?_⟩
  obtain ⟨rfl, hy⟩ := hy
  have ex : x = v := Option.some.inj ((hy vs e).symm.trans hv)
  subst ex
  exact ⟨c, rfl, rfl, Step.refl c, ok, .inl rv⟩
theorem gd_str {y : Str} : Gd K z (Its y) G (y.cps.toList.map fun c => .str ⟨#[c]⟩) := by
  intro c hG ok i
  refine ⟨fun hi => ?_, fun d hd => ?_⟩
  · rw [List.length_map, Array.length_toList] at hi
    exact hi
  · rw [List.getElem?_map, Array.getElem?_toList] at hd
    obtain ⟨cc, e1, e2⟩ := Option.map_eq_some_iff.mp hd
    refine ⟨(Array.getElem?_eq_some_iff.mp e1).1, fun x H' hy => ?_⟩
    obtain ⟨rfl, c2, e3, rfl⟩ := hy
    rw [e1] at e3
    cases e3
    subst e2
    exact ⟨c, rfl, rfl, Step.refl c, ok, .inl (.str _)⟩
theorem gd_rng {k : Nat} : Gd K z (Itr 0 k) G (rngD k) := by
  intro c hG ok i
  unfold rngD
  refine ⟨fun hi => ?_, fun d hd => ?_⟩
  · rw [List.length_map, List.length_range] at hi
    exact hi
  · rw [List.getElem?_map] at hd
    obtain ⟨j, e1, e2⟩ := Option.map_eq_some_iff.mp hd
    obtain ⟨hj, e3⟩ := List.getElem?_eq_some_iff.mp e1
    rw [List.getElem_range] at e3
    subst e3
    rw [List.length_range] at hj
    refine ⟨hj, fun x H' hy => ?_⟩
    obtain ⟨rfl, rfl⟩ := hy
    subst e2
    rw [Int.zero_add]
    exact ⟨c, rfl, rfl, Step.refl c, ok, .inl (.int _)⟩
theorem zipD_get : ∀ {xs ys : List D} {i : Nat} {d : D}, (zipD xs ys)[i]? = some d → ∃ x y, xs[i]? = some x ∧ ys[i]? = some y ∧ d = .tup [x, y]
  | [], _, i, d, h => by simp [zipD] at h
  | _ :: _, [], i, d, h => by simp [zipD] at h
  | x :: xs, y :: ys, 0, d, h => by
    simp [zipD] at h
    exact ⟨x, y, rfl, rfl, h.symm⟩
  | x :: xs, y :: ys, i + 1, d, h => by
    simp [zipD] at h
    obtain ⟨a, b, h1, h2, h3⟩ := zipD_get h
    exact ⟨a, b, by simpa using h1, by simpa using h2, h3⟩
theorem zipD_len : ∀ (xs ys : List D), (zipD xs ys).length = min xs.length ys.length
  | [], _ => by simp [zipD]
  | _ :: _, [] => by simp [zipD]
  | x :: xs, y :: ys => by
    simp [zipD, zipD_len xs ys]
theorem gd_pair {c : Cf Y} (ok : Ok c) {T : Addr} {x y : V} {d e : D} (hT : c.H T = none) (hx : Rep K c.F x d) (hy : Rep K c.F y e) :
    ∃ c' : Cf Y, c'.H = upd c.H T (.tup [x, y]) ∧ c'.s = c.s ∧ Step c c' ∧ Ok c' ∧ RepW K true c'.F (.ref T) (.tup [d, e]) :=
  ⟨⟨upd c.F T (.tup [x, y]), upd c.H T (.tup [x, y]), c.s, c.g⟩, rfl, rfl, Step.new ok hT _, ok.new hT _, .inr ⟨rfl, T, _, _, rfl, rfl, .inl (.inl upd_same), .cons (hx.mono (Step.new ok hT (.tup [x, y])).f) (.cons (hy.mono (Step.new ok hT (.tup [x, y])).f) .nil)⟩⟩
theorem gd_zk {k1 k2 : Zk} {ds es : List D} (h : ∀ c, G c → Ok c → ∃ vs, k1.vs K c.H vs ∧ Reps K c.F vs ds) (h2 : ∀ c, G c → Ok c → ∃ vs, k2.vs K c.H vs ∧ Reps K c.F vs es) : Gd K true (Itk K k1 k2) G (zipD ds es) := by
  intro c hG ok i
  obtain ⟨vs, e, r⟩ := h c hG ok
  obtain ⟨vs2, e2, r2⟩ := h2 c hG ok
  refine ⟨fun hi => ⟨vs, vs2, e, e2, ?_⟩, fun d hd => ?_⟩
  · rw [zipD_len] at hi
    rw [r.length, r2.length]
    omega
  · obtain ⟨dx, dy, g1, g2, rfl⟩ := zipD_get hd
    obtain ⟨v, hv, rv⟩ := r.get g1
    obtain ⟨v2, hv2, rv2⟩ := r2.get g2
    refine ⟨⟨vs, vs2, v, v2, e, e2, hv, hv2⟩, fun x H' hy => ?_⟩
    obtain ⟨T, x1, x2, rfl, hT, rfl, f1, f2⟩ := hy
    have ex : x1 = v := Option.some.inj ((f1 vs e).symm.trans hv)
    have ex2 : x2 = v2 := Option.some.inj ((f2 vs2 e2).symm.trans hv2)
    subst ex ex2
    exact gd_pair ok hT rv rv2
def zvOf : D → Zv
  | .lst _ => .lst
  | .tup _ => .tup
  | _ => .str
theorem reps_signs {F : Hp} : ∀ l : List Nat, Reps K F (l.map fun c => V.str ⟨#[c]⟩) (l.map fun c => D.str ⟨#[c]⟩)
  | [] => .nil
  | _ :: l => .cons (.str _) (reps_signs l)
theorem zv_is {Hs : Hp} {c : Cf Y} {k : K3} {v : V} {d : D} {xs : List D} (e : seqD d = some xs) (h : Is K Hs c k v d) (ok : Ok c) :
    (∀ l, v = .ref l → zvOf d ≠ .str) ∧ ((∃ l, v = .ref l) ∨ ∃ x, v = .str x) ∧ ∃ vs, Reps K c.F vs xs ∧ ∀ t, ((zvOf d).of v t).vs K c.H vs := by
  unfold seqD at e
  split at e
  · cases e
    obtain ⟨q, vs, rfl, h1, r1⟩ := Is.lst h ok
    exact ⟨fun _ _ z => (nomatch z), .inl ⟨q, rfl⟩, vs, r1, fun t => .inl (.inl h1)⟩
  · cases e
    obtain ⟨q, vs, rfl, h1, _, r1⟩ := Is.tup h ok
    exact ⟨fun _ _ z => (nomatch z), .inl ⟨q, rfl⟩, vs, r1, fun t => h1⟩
  · split at e
    · rename_i z hz
      cases e
      rw [Is.str h]
      exact ⟨fun _ z => (nomatch z), .inr ⟨z, rfl⟩, _, reps_signs z.cps.toList, fun t => ⟨hz, rfl⟩⟩
    · cases e
  · cases e
theorem walk_of {st : Bool} {c c1 : Cf Y} {x : V} {k : K3} {d : D} (hk : st = true → k ≠ .o) (j : Is K c.H c1 k x d) (t : Step c c1) (ok : Ok c1) :
    ∃ c2 : Cf Y, ∃ k2 : K3, c2.s = c1.s ∧ c2.H = c1.H ∧ Step c c2 ∧ Ok c2 ∧ Is K c.H c2 k2 x d ∧ (st = true → k2 = .v) := by
  cases st with
  | false => exact ⟨c1, k, rfl, rfl, t, ok, j, fun z => nomatch z⟩
  | true =>
    obtain ⟨c2, e1, e2, t2, ok2, r⟩ := Is.data j (hk rfl) t ok
    exact ⟨c2, .v, e1, e2, t2, ok2, r, fun _ => rfl⟩
theorem Is.later {st : Bool} {Hs : Hp} {c c2 : Cf Y} {x : V} {k : K3} {d : D} (j : Is K Hs c k x d) (hk : st = true → k = .v) (h : if st = true then Sub c.F c2.F else Step c c2) : Is K Hs c2 k x d := by
  cases st with
  | false => exact Is.step j h
  | true =>
    have hk := hk rfl
    subst hk
    exact Rep.mono h j
end
section
variable {X : Cx} {Y : Sys} {W : WX} {n : Nat} {N : List Str} {sc : Scope} {pos p p2 : Pos} {a' b' c' tg : Expr} {a b e : CE Y.S} {st : Bool}
theorem si_seq (ha : PE X a' (tE X.K X.mg W a)) : PI X tg a' (tI X.K X.mg W st (.seq a)) := by
  refine (pi_seq ha).weak fun σ H R h => ?_
  obtain ⟨c, H0, ρ, rfl, ok, rel, p⟩ := h
  have p : Post X.mg W σ c (JI X.K st false c) R ((ev a ρ c.s).bind fun x s => (stk st x s).bind fun x s => liftO s (itemsD x.2)) := p
  refine tR.bind ok rel p fun x c1 xa ea t1 ok1 rel1 j1 p1 => ?_
  obtain ⟨hk, p1⟩ := p1.stk
  obtain ⟨k, d⟩ := xa
  obtain ⟨c2, k2, e1, e2, t2, ok2, j2, hv⟩ := walk_of hk j1 t1 ok1
  have p1 : Post X.mg W σ c (JI X.K st false c) R (liftO c1.s (itemsD d)) := p1
  have fin : ∀ {J : It} {ds : List D}, itemsD d = some ds → Gd X.K false J (fun c'' : Cf Y => Is X.K c.H c'' k2 x d) ds → R J c1.H := fun {J ds} ed g => by
    rw [ed] at p1
    rw [← e2]
    exact p1 J c2 e1 t2 ok2 ⟨_, g, fun c'' h => Is.later j2 hv h⟩
  cases d with
  | lst ds =>
    obtain ⟨q, vs, rfl, h1, r1⟩ := Is.lst j1 ok1
    refine .inl ⟨q, rfl, ⟨vs, .inl (.inl h1)⟩, fin rfl (gd_lst fun c'' g ok'' => ?_)⟩
    obtain ⟨q', vs', e3, h3, r3⟩ := Is.lst g ok''
    cases e3
    exact ⟨vs', h3, r3⟩
  | tup ds =>
    obtain ⟨q, vs, rfl, h1, _, r1⟩ := Is.tup j1 ok1
    refine .inr (.inl ⟨q, rfl, ⟨vs, h1⟩, fin rfl (gd_tup fun c'' g ok'' => ?_)⟩)
    obtain ⟨q', vs', e3, h3, _, r3⟩ := Is.tup g ok''
    cases e3
    exact ⟨vs', h3, r3⟩
  | str z => exact .inr (.inr ⟨z, Is.str j1, fin rfl gd_str⟩)
  | _ => exact p1.elim
theorem si_rng (C : Cxt X W n N sc) (hg : glB sc "range" = true) (hs : notStar a' = true) (ha : PE X a' (tE X.K X.mg W a)) : PI X tg (.Call (.Name "range" p) [a'] [] pos) (tI X.K X.mg W st (.rng a)) := by
  refine (pi_range1 (C.gl hg) (C.bltn (by decide +kernel)) (pa_cons ha pa_nil (star_cons hs _ _)) (star_cons hs _ _)).weak fun σ H R h => ?_
  obtain ⟨c, H0, ρ, rfl, ok, rel, p⟩ := h
  have p : Post X.mg W σ c (JI X.K st false c) R ((ev a ρ c.s).bind fun x s => (intOf x s).bind fun n s => if decide (-1000000 ≤ n) && decide (n ≤ 1000000) then .ok (rngD n.toNat) s else .er) := p
  refine tR.bind ok rel p fun x c1 xa ea t1 ok1 rel1 j1 p1 => ?_
  obtain ⟨i, ei, q⟩ := p1.int
  obtain ⟨k, d⟩ := xa
  have ei : d = .int i := ei
  subst ei
  split at q
  · rename_i hb
    simp only [Bool.and_eq_true, decide_eq_true_eq] at hb
    exact ⟨i, by rw [Is.int j1], by omega, by omega, q _ c1 rfl t1 ok1 ⟨fun _ => True, gd_rng, fun _ _ => trivial⟩⟩
  · exact q.elim
theorem si_zip (C : Cxt X W n N sc) (hg : glB sc "zip" = true) (hs : notStar a' = true) (hs2 : notStar b' = true) (ht : isTupE tg = true) (ha : PE X a' (tE X.K X.mg W a)) (hb : PE X b' (tE X.K X.mg W b)) : PI X tg (.Call (.Name "zip" p) [a', b'] [] pos) (tI X.K X.mg W st (.zip a b)) := by
  cases tg <;> first | cases ht | skip
  refine (pi_zk (C.gl hg) (C.bltn (by decide +kernel)) (pa_cons ha (pa_cons hb pa_nil (star_cons hs2 _ _)) (star_cons hs _ _)) (star_cons hs _ _) (by rw [star_cons hs2]; rfl)).weak fun σ H R h => ?_
  obtain ⟨c, H0, ρ, rfl, ok, rel, p⟩ := h
  have p : Post X.mg W σ c (JI X.K st true c) R ((ev a ρ c.s).bind fun x s => (stk st x s).bind fun x s => (ev b ρ s).bind fun y s => (stk st y s).bind fun y s => liftO s (zipK x.2 y.2)) := p
  refine tR.bind ok rel p fun x c1 xa ea t1 ok1 rel1 j1 p1 => ?_
  obtain ⟨hk, p1⟩ := p1.stk
  obtain ⟨k, d⟩ := xa
  obtain ⟨c2, k2, e1, e2, t2, ok2, j2, hv⟩ := walk_of hk j1 t1 ok1
  rw [← e2]
  rw [← e1] at p1
  have p1 := p1.shift (J' := JI X.K st true c2) t2 ok2 fun _ _ _ z => z
  refine tR.bind ok2 (rel.step t2) p1 fun y c3 ya eb t3 ok3 rel3 j3 p3 => ?_
  obtain ⟨hk3, p3⟩ := p3.stk
  obtain ⟨k3, d3⟩ := ya
  obtain ⟨c4, k4, e3, e4, t4, ok4, j4, hv4⟩ := walk_of hk3 j3 t3 ok3
  have p3 : Post X.mg W σ c2 (JI X.K st true c2) R (liftO c3.s (zipK d d3)) := p3
  have fin : ∀ {J : It} {ds : List D}, zipK d d3 = some ds → Gd X.K true J (fun c'' : Cf Y => Is X.K c.H c'' k2 x d ∧ Is X.K c2.H c'' k4 y d3) ds → R J c3.H := fun {J ds} ed g => by
    rw [ed] at p3
    rw [← e4]
    refine p3 J c4 e3 t4 ok4 ⟨_, g, fun c'' h => ⟨?_, Is.later j4 hv4 h⟩⟩
    exact Is.later (Is.step j2 t4) hv h
  have j3' := Is.step j2 t3
  cases eds : seqD d with
  | none => unfold zipK at p3; rw [eds] at p3; exact p3.elim
  | some ds =>
    cases ees : seqD d3 with
    | none => unfold zipK at p3; rw [eds, ees] at p3; exact p3.elim
    | some es =>
      have ez : zipK d d3 = some (zipD ds es) := by unfold zipK; rw [eds, ees]
      obtain ⟨u1, u2, vs, r1, u3⟩ := zv_is eds j3' ok3
      obtain ⟨w1, w2, vs2, r2, w3⟩ := zv_is ees j3 ok3
      refine ⟨x, y, zvOf d, zvOf d3, rfl, ⟨u1, w1, u2, w2⟩, vs, vs2, u3, w3, fun t t' => fin ez (gd_zk (fun c'' g ok'' => ?_) fun c'' g ok'' => ?_)⟩
      · obtain ⟨_, _, vs', r', u'⟩ := zv_is eds g.1 ok''
        exact ⟨vs', u' t, r'⟩
      · obtain ⟨_, _, vs', r', u'⟩ := zv_is ees g.2 ok''
        exact ⟨vs', u' t', r'⟩
end
end Mf
set_option Elab.async false
set_option linter.all false
set_option maxRecDepth 100000
set_option maxHeartbeats 1000000
namespace Mf
open PySem L2

section
variable {Y : Sys} {K : PySem.W.Frag} {H0 : Hp} {c : Cf Y} {σ : L2.St} {ρ : List SV}
theorem Rel.set (r : Rel K H0 c σ ρ) {i : Nat} {v : V} {d : D} (h : Rep K c.F v d) (hi : i < ρ.length) : Rel K H0 c (σ.set i (some v)) (ρ.set i (.va d)) where
  len := by rw [List.length_set, List.length_set]; exact r.len
  va := fun j e hj => by
    by_cases q : i = j
    · subst q
      rw [List.getElem?_set_self hi] at hj
      cases hj
      exact ⟨v, List.getElem?_set_self (by rw [← r.len]; exact hi), h⟩
    · rw [List.getElem?_set_ne q] at hj
      obtain ⟨v', h1, h2⟩ := r.va j e hj
      exact ⟨v', by rw [List.getElem?_set_ne q]; exact h1, h2⟩
  ow := fun j e hj => by
    by_cases q : i = j
    · subst q
      rw [List.getElem?_set_self hi] at hj
      cases hj
    · rw [List.getElem?_set_ne q] at hj
      obtain ⟨v', h1, h2⟩ := r.ow j e hj
      exact ⟨v', by rw [List.getElem?_set_ne q]; exact h1, h2⟩
  ap := fun j k e e' p hjk hj hk hp => by
    by_cases q : i = j
    · subst q
      rw [List.getElem?_set_self hi] at hj
      cases hj
    · by_cases q' : i = k
      · subst q'
        rw [List.getElem?_set_self hi] at hk
        cases hk
      · rw [List.getElem?_set_ne q] at hj hp
        rw [List.getElem?_set_ne q'] at hk ⊢
        exact r.ap j k e e' p hjk hj hk hp
theorem Rel.unset (r : Rel K H0 c σ ρ) (i : Nat) (x : Option V) : Rel K H0 c (σ.set i x) (ρ.set i .no) where
  len := by rw [List.length_set, List.length_set]; exact r.len
  va := fun j e hj => by
    by_cases q : i = j
    · subst q
      by_cases hi : i < ρ.length
      · rw [List.getElem?_set_self hi] at hj; cases hj
      · rw [List.getElem?_eq_none (by rw [List.length_set]; omega)] at hj; cases hj
    · rw [List.getElem?_set_ne q] at hj
      obtain ⟨v', h1, h2⟩ := r.va j e hj
      exact ⟨v', by rw [List.getElem?_set_ne q]; exact h1, h2⟩
  ow := fun j e hj => by
    by_cases q : i = j
    · subst q
      by_cases hi : i < ρ.length
      · rw [List.getElem?_set_self hi] at hj; cases hj
      · rw [List.getElem?_eq_none (by rw [List.length_set]; omega)] at hj; cases hj
    · rw [List.getElem?_set_ne q] at hj
      obtain ⟨v', h1, h2⟩ := r.ow j e hj
      exact ⟨v', by rw [List.getElem?_set_ne q]; exact h1, h2⟩
  ap := fun j k e e' p hjk hj hk hp => by
    have no : ∀ {m : Nat} {e : D}, (ρ.set i .no)[m]? = some (SV.ow e) → i ≠ m := fun {m e} h q => by
      subst q
      by_cases hi : i < ρ.length
      · rw [List.getElem?_set_self hi] at h; cases h
      · rw [List.getElem?_eq_none (by rw [List.length_set]; omega)] at h; cases h
    have q := no hj
    have q' := no hk
    rw [List.getElem?_set_ne q] at hj hp
    rw [List.getElem?_set_ne q'] at hk ⊢
    exact r.ap j k e e' p hjk hj hk hp
theorem Rel.wipe (r : Rel K H0 c σ ρ) : ∀ vs : List Nat, Rel K H0 c (L2.wipe σ vs) (wipeR ρ vs)
  | [] => r
  | v :: vs => (Rel.wipe r vs).unset v none
end
theorem wipe_in {σ : L2.St} {i : Nat} : ∀ {vs : List Nat}, i ∈ vs → i < σ.length → (wipe σ vs)[i]? = some none
  | v :: vs, h, hi => by
    unfold wipe
    by_cases q : v = i
    · subst q
      exact List.getElem?_set_self (by rw [wipe_length]; exact hi)
    · rw [List.getElem?_set_ne q]
      exact wipe_in ((List.mem_cons.mp h).resolve_left fun z => q z.symm) hi
theorem wipe_ext {σ τ : L2.St} {vs : List Nat} (hl : σ.length = τ.length) (h : ∀ i, i ∉ vs → σ[i]? = τ[i]?) : wipe σ vs = wipe τ vs := by
  apply List.ext_getElem?
  intro i
  by_cases q : i ∈ vs
  · by_cases hi : i < σ.length
    · rw [wipe_in q hi, wipe_in q (by omega)]
    · rw [List.getElem?_eq_none (by rw [wipe_length]; omega), List.getElem?_eq_none (by rw [wipe_length]; omega)]
  · rw [wipe_out q, wipe_out q]
    exact h i q
theorem wipe_wipe {σ : L2.St} {vs : List Nat} : wipe (wipe σ vs) vs = wipe σ vs := wipe_ext (wipe_length _ _) fun i hi => wipe_out hi

def gL (K : PySem.W.Frag) : Tg → TGs
  | .nm _ => fun _ _ _ _ => False
  | .nil => gNil
  | .cons t r => gCons (match t with | .nm i => gName i | .nil => fun _ _ _ _ => False | .cons t' r' => gTup K (lenTg (.cons t' r')) (gL K (.cons t' r'))) (gL K r)
def gT (K : PySem.W.Frag) : Tg → TG
  | .nm i => gName i
  | .nil => fun _ _ _ _ => False
  | .cons t' r' => gTup K (lenTg (.cons t' r')) (gL K (.cons t' r'))
theorem asgL_len : ∀ {t : Tg} {ds : List D} {ρ ρ' : List SV}, asgL t ds ρ = some ρ' → ds.length = lenTg t
  | .nm _, _, _, _, h => by cases h
  | .nil, [], _, _, h => rfl
  | .nil, _ :: _, _, _, h => by cases h
  | .cons _ _, [], _, _, h => by cases h
  | .cons t r, d :: ds, ρ, ρ', h => by
    show ds.length + 1 = lenTg r + 1
    unfold asgL at h
    cases t with
    | nm i =>
      simp only at h
      split at h
      · rw [asgL_len h]
      · cases h
    | nil => cases h
    | cons t' r' =>
      simp only at h
      split at h
      · obtain ⟨ρ1, h1, h2⟩ := Option.bind_eq_some_iff.mp h
        rw [asgL_len h2]
      · cases h
theorem gL_use {Y : Sys} {K : PySem.W.Frag} {H0 : Hp} {c : Cf Y} (ok : Ok c) : ∀ {t : Tg} {ds : List D} {ρ ρ' : List SV} {σ : L2.St} {vs : List V} {Q : L2.St → Hp → Prop}, asgL t ds ρ = some ρ' → Rel K H0 c σ ρ → Reps K c.F vs ds →
    (∀ σ', Rel K H0 c σ' ρ' → σ'.length = σ.length → (∀ i, i ∉ slots t → σ'[i]? = σ[i]?) → Q σ' c.H) → gL K t vs σ c.H Q
  | .nm _, _, _, _, _, _, _, h, _, _, _ => by cases h
  | .nil, [], _, _, _, _, _, h, r, rv, q => by
    cases h
    cases rv
    exact ⟨rfl, q _ r rfl fun _ _ => rfl⟩
  | .nil, _ :: _, _, _, _, _, _, h, _, _, _ => by cases h
  | .cons _ _, [], _, _, _, _, _, h, _, _, _ => by cases h
  | .cons t r, d :: ds, ρ, ρ', σ, vs, Q, h, rel, rv, q => by
    cases rv with
    | cons rd rr =>
      rename_i v vr
      unfold gL
      refine ⟨v, vr, rfl, ?_⟩
      unfold asgL at h
      cases t with
      | nm i =>
        simp only at h
        split at h
        · rename_i hi
          refine gL_use ok h (rel.set rd hi) rr fun σ' r' l' s' => q σ' r' (by rw [l', List.length_set]) fun j hj => ?_
          rw [s' j fun z => hj (List.mem_append_right _ z)]
          exact List.getElem?_set_ne (show i ≠ j from fun z => hj (List.mem_append_left _ (by rw [← z]; exact List.mem_singleton_self _)))
        · cases h
      | nil =>
        cases h
      | cons t' r' =>
        simp only at h
        split at h
        · rename_i es
          obtain ⟨ρ1, h1, h2⟩ := Option.bind_eq_some_iff.mp h
          cases rd with
          | tup hq _ re =>
            refine ⟨_, _, rfl, sqT_sub ok.sub hq, by rw [re.length, asgL_len h1], ?_⟩
            refine gL_use ok h1 rel re fun σ1 rel1 l1 s1 => gL_use ok h2 rel1 rr fun σ' rel' l' s' => q σ' rel' (by rw [l', l1]) fun j hj => ?_
            rw [s' j fun z => hj (List.mem_append_right _ z)]
            exact s1 j fun z => hj (List.mem_append_left _ z)
        · cases h

theorem gT_useW {Y : Sys} {K : PySem.W.Frag} {H0 : Hp} {c : Cf Y} (ok : Ok c) {t r : Tg} {ds : List D} {ρ ρ' : List SV} {σ : L2.St} {a : Addr} {vs : List V} {Q : L2.St → Hp → Prop} (h : asgT (.cons t r) (.tup ds) ρ = some ρ') (rel : Rel K H0 c σ ρ) (hq : SqT K c.F a vs) (rv : Reps K c.F vs ds)
    (q : ∀ σ', Rel K H0 c σ' ρ' → σ'.length = σ.length → (∀ i, i ∉ slots (.cons t r) → σ'[i]? = σ[i]?) → Q σ' c.H) : gT K (.cons t r) (.ref a) σ c.H Q := by
  unfold asgT asgL at h
  obtain ⟨ρ1, h1, h2⟩ := Option.bind_eq_some_iff.mp h
  cases h2
  exact ⟨a, vs, rfl, sqT_sub ok.sub hq, by rw [rv.length, asgL_len h1], gL_use ok h1 rel rv q⟩
theorem gT_use {Y : Sys} {K : PySem.W.Frag} {H0 : Hp} {c : Cf Y} (ok : Ok c) {t : Tg} {d : D} {ρ ρ' : List SV} {σ : L2.St} {v : V} {Q : L2.St → Hp → Prop} (h : asgT t d ρ = some ρ') (rel : Rel K H0 c σ ρ) (rv : Rep K c.F v d)
    (q : ∀ σ', Rel K H0 c σ' ρ' → σ'.length = σ.length → (∀ i, i ∉ slots t → σ'[i]? = σ[i]?) → Q σ' c.H) : gT K t v σ c.H Q := by
  have g := gL_use (Q := Q) ok h rel (Reps.cons rv .nil) fun σ' r' l' s' => q σ' r' l' fun i hi => s' i fun z => by
    rcases List.mem_append.mp z with z | z
    · exact hi z
    · cases z
  unfold gL at g
  obtain ⟨v', r', e, g⟩ := g
  cases e
  have fin : ∀ {σ : L2.St} {H : Hp}, gL K .nil [] σ H Q → Q σ H := fun g => by
    unfold gL at g
    exact g.2
  cases t with
  | nm i => exact fin g
  | nil => exact g
  | cons t' r' =>
    obtain ⟨a, xs, e1, e2, e3, g⟩ := g
    refine ⟨a, xs, e1, e2, e3, ?_⟩
    have mono : ∀ {t : Tg} {vs : List V} {σ : L2.St} {H : Hp} {Q Q' : L2.St → Hp → Prop}, (∀ σ H, Q σ H → Q' σ H) → gL K t vs σ H Q → gL K t vs σ H Q' := by
      intro t
      induction t with
      | nm i => intro vs σ H Q Q' _ h; exact h
      | nil => intro vs σ H Q Q' hq h; unfold gL at h ⊢; exact ⟨h.1, hq _ _ h.2⟩
      | cons t r iht ihr =>
        intro vs σ H Q Q' hq h
        unfold gL at h ⊢
        obtain ⟨v, rr, e, h⟩ := h
        refine ⟨v, rr, e, ?_⟩
        cases t with
        | nm i => exact ihr hq h
        | nil => exact h
        | cons t' r' =>
          obtain ⟨a, xs, f1, f2, f3, h⟩ := h
          exact ⟨a, xs, f1, f2, f3, iht (fun _ _ z => ihr hq z) h⟩
    exact mono (fun _ _ z => fin z) g
def consT : Tg → Bool
  | .cons _ _ => true
  | _ => false
theorem gT_any {Y : Sys} {K : PySem.W.Frag} {H0 : Hp} {c : Cf Y} {z : Bool} (ok : Ok c) {t : Tg} {d : D} {ρ ρ' : List SV} {σ : L2.St} {v : V} {Q : L2.St → Hp → Prop} (hz : z = true → consT t = true) (h : asgT t d ρ = some ρ') (rel : Rel K H0 c σ ρ) (rv : RepW K z c.F v d)
    (q : ∀ σ', Rel K H0 c σ' ρ' → σ'.length = σ.length → (∀ i, i ∉ slots t → σ'[i]? = σ[i]?) → Q σ' c.H) : gT K t v σ c.H Q := by
  rcases rv with rv | ⟨e, a, vs, ds, rfl, rfl, hq, rs⟩
  · exact gT_use ok h rel rv q
  · cases t with
    | cons t r => exact gT_useW ok h rel hq rs q
    | _ => cases hz e
section
variable {X : Cx} {N : List Str} {sc : Scope} {fns : Str → Bool}
theorem each_ok {env : Env} : ∀ {t : Tg} {es : List Expr}, chkTs N sc fns t es = true → (assignEach es env).length = lenTg t ∧ ∀ p ∈ assignEach es env, p.1 = false
  | .nm _, es, h => by cases es <;> cases h
  | .nil, [], _ => ⟨rfl, fun p hp => by cases hp⟩
  | .nil, _ :: _, h => by cases h
  | .cons t r, [], h => by cases t <;> cases h
  | .cons t r, e :: es, h => by
    cases t with
    | nm i =>
      cases e <;> first | cases h | skip
      unfold chkTs at h
      simp only [Bool.and_eq_true] at h
      obtain ⟨h1, h2⟩ := each_ok (env := env) h.2
      refine ⟨congrArg (· + 1) h1, fun p hp => ?_⟩
      rcases List.mem_cons.mp hp with z | z
      · rw [z]
      · exact h2 p z
    | nil => cases e <;> cases h
    | cons t' r' =>
      cases e <;> first | cases h | skip
      unfold chkTs at h
      simp only [Bool.and_eq_true] at h
      obtain ⟨h1, h2⟩ := each_ok (env := env) h.2
      refine ⟨congrArg (· + 1) h1, fun p hp => ?_⟩
      rcases List.mem_cons.mp hp with z | z
      · rw [z]
      · exact h2 p z
theorem pgs_ok (hN : X.N = N) (hs : X.env.scope = sc) (nd : N.Nodup) (hc : X.calm = true) (hf : X.fn = fns) : ∀ {t : Tg} {es : List Expr}, chkTs N sc fns t es = true → PGs X es (gL X.K t)
  | .nm _, es, h => by cases es <;> cases h
  | .nil, [], _ => by unfold gL; exact pgs_nil
  | .nil, _ :: _, h => by cases h
  | .cons t r, [], h => by cases t <;> cases h
  | .cons t r, e :: es, h => by
    cases t with
    | nm i =>
      cases e <;> first | cases h | skip
      rename_i x pos
      unfold chkTs at h
      simp only [Bool.and_eq_true] at h
      obtain ⟨⟨h1, h2⟩, h3⟩ := h
      unfold gL
      refine pgs_cons (pg_name (by rw [hN]; exact nd) (by rw [hN]; exact beq_iff_eq.mp h1) ?_ ?_) (pgs_ok hN hs nd hc hf h3) rfl
      · unfold L2.Loc
        rw [hs]
        split at h2
        · exact .inl (by assumption)
        · exact .inr (by assumption)
        · cases h2
      · rw [hf, hs]
        split at h2
        · exact .inr (by assumption)
        · exact .inl h2
        · cases h2
    | nil => cases e <;> cases h
    | cons t' r' =>
      cases e <;> first | cases h | skip
      rename_i es' kk pos
      unfold chkTs at h
      simp only [Bool.and_eq_true] at h
      unfold gL
      obtain ⟨e1, e2⟩ := each_ok (env := X.env) h.1
      refine pgs_cons (pg_tup hc (pgs_ok hN hs nd hc hf h.1) e1 ?_) (pgs_ok hN hs nd hc hf h.2) rfl
      rw [List.findIdx?_eq_none_iff]
      exact fun p hp => by simpa using e2 p hp
theorem pg_ok (hN : X.N = N) (hs : X.env.scope = sc) (nd : N.Nodup) (hc : X.calm = true) (hf : X.fn = fns) {t : Tg} {e : Expr} (h : chkT N sc fns t e = true) : PG X e (gT X.K t) := by
  unfold chkT at h
  cases t with
  | nm i =>
    cases e <;> first | cases h | skip
    rename_i x pos
    unfold chkTs at h
    simp only [Bool.and_eq_true] at h
    obtain ⟨⟨h1, h2⟩, h3⟩ := h
    refine pg_name (by rw [hN]; exact nd) (by rw [hN]; exact beq_iff_eq.mp h1) ?_ ?_
    · unfold L2.Loc
      rw [hs]
      split at h2
      · exact .inl (by assumption)
      · exact .inr (by assumption)
      · cases h2
    · rw [hf, hs]
      split at h2
      · exact .inr (by assumption)
      · exact .inl h2
      · cases h2
  | nil => cases e <;> cases h
  | cons t' r' =>
    cases e <;> first | cases h | skip
    rename_i es' kk pos
    unfold chkTs at h
    simp only [Bool.and_eq_true] at h
    obtain ⟨e1, e2⟩ := each_ok (env := X.env) h.1
    refine pg_tup hc (pgs_ok hN hs nd hc hf h.1) e1 ?_
    rw [List.findIdx?_eq_none_iff]
    exact fun p hp => by simpa using e2 p hp
end
end Mf
set_option Elab.async false
set_option linter.all false
set_option maxRecDepth 100000
set_option maxHeartbeats 1000000
namespace Mf
open PySem L2

abbrev W0 : WX := fun _ _ _ _ => False
def lcF {S : Type} (tg : Tg) (ifs : CA S) (elt : CE S) (ρ : List SV) : D → S → Res S (Option D) := fun d s => match asgT tg d ρ with
  | none => .er
  | some ρ' => (noEx (evT ifs ρ' s)).bind fun k s => if k then (noEx (ev elt ρ' s)).bind fun y s => (dat y s).bind fun e s => .ok (some e) s else .ok none s
theorem noEx_ok {S α : Type} {r : Res S α} {a : α} {s : S} (h : noEx r = .ok a s) : r = .ok a s := by
  cases r with
  | ok b t => exact h
  | _ => cases h
theorem bind_ok {S α β : Type} {r : Res S α} {f : α → S → Res S β} {b : β} {s : S} (h : r.bind f = .ok b s) : ∃ a t, r = .ok a t ∧ f a t = .ok b s := by
  cases r with
  | ok a t => exact ⟨a, t, rfl, h⟩
  | _ => cases h
theorem dat_ok {S : Type} {x : K3 × D} {s t : S} {d : D} (h : dat x s = .ok d t) : x.1 ≠ .o ∧ d = x.2 ∧ t = s := by
  obtain ⟨k, e⟩ := x
  cases k <;> cases h
  · exact ⟨fun z => (nomatch z), rfl, rfl⟩
  · exact ⟨fun z => (nomatch z), rfl, rfl⟩
theorem lcF_ok {S : Type} {tg : Tg} {ifs : CA S} {elt : CE S} {ρ : List SV} {d : D} {s s' : S} {o : Option D} (h : lcF tg ifs elt ρ d s = .ok o s') : ∃ ρ' k s1, asgT tg d ρ = some ρ' ∧ evT ifs ρ' s = .ok k s1 ∧
    ((k = true ∧ ∃ y, ev elt ρ' s1 = .ok y s' ∧ y.1 ≠ .o ∧ o = some y.2) ∨ (k = false ∧ o = none ∧ s' = s1)) := by
  unfold lcF at h
  split at h
  · cases h
  · rename_i ρ' e
    obtain ⟨k, s1, h1, h2⟩ := bind_ok h
    refine ⟨ρ', k, s1, e, noEx_ok h1, ?_⟩
    cases k with
    | true =>
      obtain ⟨y, s2, h3, h4⟩ := bind_ok (show (noEx (ev elt ρ' s1)).bind _ = _ from h2)
      obtain ⟨e', s3, h5, h6⟩ := bind_ok h4
      obtain ⟨h7, h8, h9⟩ := dat_ok h5
      subst h8 h9
      cases h6
      exact .inl ⟨rfl, y, noEx_ok h3, h7, rfl⟩
    | false =>
      have h2 : Res.ok none s1 = Res.ok o s' := h2
      cases h2
      exact .inr ⟨rfl, rfl, rfl⟩
theorem lcF_ex {S : Type} {tg : Tg} {ifs : CA S} {elt : CE S} {ρ : List SV} {d : D} {s s' : S} {x : Str} : lcF tg ifs elt ρ d s ≠ .ex x s' := by
  unfold lcF
  split
  · exact fun z => nomatch z
  · rename_i ρ' e
    cases evT ifs ρ' s with
    | ok k s1 =>
      cases k with
      | true =>
        show ((noEx (ev elt ρ' s1)).bind fun y s => (dat y s).bind fun e s => .ok (some e) s) ≠ _
        cases ev elt ρ' s1 with
        | ok y s2 =>
          obtain ⟨k3, dd⟩ := y
          cases k3 <;> exact fun z => nomatch z
        | _ => exact fun z => nomatch z
      | false => exact fun z => nomatch z
    | _ => exact fun z => nomatch z
theorem walkR_ex {S : Type} {f : D → S → Res S (Option D)} (hf : ∀ d s x s', f d s ≠ .ex x s') : ∀ (ds : List D) (s : S) (x : Str) (s' : S), walkR f ds s ≠ .ex x s'
  | [], _, _, _ => fun z => nomatch z
  | d :: ds, s, x, s' => by
    unfold walkR
    cases e : f d s with
    | ok o s1 =>
      show ((walkR f ds s1).bind _) ≠ _
      cases e2 : walkR f ds s1 with
      | ok r s2 => exact fun z => nomatch z
      | ex y s2 => exact absurd e2 (walkR_ex hf ds s1 y s2)
      | er => exact fun z => nomatch z
    | ex y s2 => exact absurd e (hf d s y s2)
    | er => exact fun z => nomatch z
theorem walkR_cons {S : Type} {f : D → S → Res S (Option D)} {d : D} {ds : List D} {s s' : S} {r : List D} (h : walkR f (d :: ds) s = .ok r s') : ∃ o s1 r', f d s = .ok o s1 ∧ walkR f ds s1 = .ok r' s' ∧ r = o.toList ++ r' := by
  unfold walkR at h
  obtain ⟨o, s1, h1, h2⟩ := bind_ok h
  obtain ⟨r', s2, h3, h4⟩ := bind_ok h2
  cases h4
  exact ⟨o, s1, r', h1, h3, rfl⟩
section
variable {Y : Sys} {K : PySem.W.Frag} {mg : Str → Option Value} {W : WX}
abbrev tTs (K : PySem.W.Frag) (mg : Str → Option Value) (W : WX) (ifs : CA Y.S) : TT := tR K mg W JB (evT ifs)
theorem lc_use {it : CI Y.S} {tg : Tg} {ifs : CA Y.S} {elt : CE Y.S} {vs : List Nat} (hz : zipI it = true → consT tg = true) (hsl : ∀ i ∈ slots tg, i ∈ vs) {σ : L2.St} {H : Hp} {Q : VK} (h : tE K mg W (.lc it tg ifs elt vs) σ H Q) :
    tLc (tI K mg W false it) (gT K tg) (tTs K mg W0 ifs) (tE K mg W0 elt) vs σ H Q := by
  obtain ⟨c, H0, ρ, rfl, ok, rel, p⟩ := h
  have p : Post mg W σ c (JE K c) Q ((evI false it ρ c.s).bind fun ds s => if !lenOk ds.length then .er else (walkR (lcF tg ifs elt (wipeR ρ vs)) ds s).bind fun r s => .ok (.t, .lst r) s) := p
  refine tR.bind ok rel p fun J c1 ds ea t1 ok1 rel1 j1 p1 => ?_
  obtain ⟨G, gd, hG⟩ := j1
  intro L hL
  have p1 := p1.shiftE t1 ok1
  split at p1
  · exact p1.elim
  rename_i hlen
  have hlen : lenOk ds.length = true := by simpa using hlen
  cases ew : walkR (lcF tg ifs elt (wipeR ρ vs)) ds c1.s with
  | er => rw [ew] at p1; exact p1.elim
  | ex x s' => exact absurd ew (walkR_ex (fun _ _ _ _ => lcF_ex) _ _ _ _)
  | ok r s' =>
    rw [ew] at p1
    have p1 : ∀ v (c' : Cf Y), c'.s = s' → Step c1 c' → Ok c' → Is K c1.H c' .t v (.lst r) → Q v c'.H := p1
    refine ⟨fun i m H => m = ds.length - i ∧ i ≤ ds.length ∧ ∃ (cc : Cf Y) (acc : List V) (done rest : List D), cc.H = H ∧ Ok cc ∧ Step c1 cc ∧ cc.H L = some (.lst acc) ∧ cc.F L = none ∧ ¬ Y.dm cc.g L ∧ Reps K cc.F acc done ∧ acc.length ≤ i ∧
      walkR (lcF tg ifs elt (wipeR ρ vs)) (ds.drop i) cc.s = .ok rest s' ∧ done ++ rest = r,
      ⟨ds.length, rfl, Nat.zero_le _, ⟨c1.F, upd c1.H L (.lst []), c1.s, c1.g⟩, [], [], r, rfl, ok1.own hL _, Step.own ok1 hL _, upd_same, ok1.fr hL, fun z => ok1.has L z hL, .nil, Nat.le_refl _, ew, rfl⟩, fun i m H hW => ?_⟩
    obtain ⟨rfl, hi, cc, acc, done, rest, rfl, okc, tc, hacc, hF, hnd, racc, hal, hw, hr⟩ := hW
    by_cases hlt : i < ds.length
    · have hd : ds[i]? = some ds[i] := List.getElem?_eq_getElem hlt
      have edrop : ds.drop i = ds[i] :: ds.drop (i + 1) := List.drop_eq_getElem_cons hlt
      rw [edrop] at hw
      obtain ⟨o, s1, r', w1, w2, w3⟩ := walkR_cons hw
      obtain ⟨ρ', k, s2, a1, a2, a3⟩ := lcF_ok w1
      obtain ⟨go, yl⟩ := (gd cc (hG cc (by rw [if_neg Bool.false_ne_true]; exact tc)) okc i).2 _ hd
      refine .inr ⟨go, fun H' => ds.length - (i + 1) = ds.length - (i + 1) ∧ i + 1 ≤ ds.length ∧ ∃ (cc : Cf Y) (acc : List V) (done rest : List D), cc.H = H' ∧ Ok cc ∧ Step c1 cc ∧ cc.H L = some (.lst acc) ∧ cc.F L = none ∧ ¬ Y.dm cc.g L ∧ Reps K cc.F acc done ∧ acc.length ≤ i + 1 ∧
        walkR (lcF tg ifs elt (wipeR ρ vs)) (ds.drop (i + 1)) cc.s = .ok rest s' ∧ done ++ rest = r, fun H' hN => ⟨ds.length - (i + 1), by omega, hN⟩, fun x H' hy => ?_⟩
      obtain ⟨c2, rfl, es2, t2, ok2, rx⟩ := yl x H' hy
      have rel2 : Rel K H0 c2 (wipe σ vs) (wipeR ρ vs) := (rel1.step (tc.trans okc t2)).wipe vs
      refine gT_any ok2 hz a1 rel2 rx fun σ' rel' l' s' => ⟨?_, ?_⟩
      · rw [← wipe_wipe (σ := σ) (vs := vs)]
        exact wipe_ext l' fun j hj => s' j fun z => hj (hsl j z)
      · refine ⟨c2, H0, ρ', rfl, ok2, rel', ?_⟩
        rw [es2, a2]
        intro b c3 es3 t3 ok3 hb
        have hb : b = k := hb
        subst hb
        have obL : cc.H L ≠ none := by rw [hacc]; exact fun z => nomatch z
        rcases a3 with ⟨rfl, y, a4, a5, a6⟩ | ⟨rfl, a4, a5⟩
        · refine iteT ⟨c3, H0, ρ', rfl, ok3, rel'.step t3, ?_⟩
          rw [es3, a4]
          intro v c4 es4 t4 ok4 j4
          obtain ⟨c5, es5, eh5, t5, ok5, r5⟩ := Is.data j4 a5 t4 ok4
          have T : Step cc c5 := t2.trans ok2 (t3.trans ok3 t5)
          have hacc5 : c5.H L = some (.lst acc) := T.h L _ hacc hnd
          have hF5 : c5.F L = none := T.n L obL hF
          have hnd5 : ¬ Y.dm c5.g L := fun z => hnd (T.g L obL z)
          rw [← eh5]
          refine ⟨acc, hacc5, ?_, rfl, hlt, ⟨c5.F, upd c5.H L (.lst (acc ++ [v])), c5.s, c5.g⟩, acc ++ [v], done ++ [y.2], r', rfl, ok5.mut hF5 hnd5 _, (tc.trans okc T).mut hL _, upd_same, hF5, hnd5, (racc.mono T.f).append (.cons r5 .nil), ?_, ?_, ?_⟩
          · have := of_decide_eq_true hlen
            have e : sizeLine = 16777216 := by decide
            omega
          · rw [List.length_append, List.length_singleton]
            omega
          · rw [es5, es4]
            exact w2
          · rw [← hr, w3, a6, List.append_assoc]
            rfl
        · refine iteF ⟨rfl, hlt, c3, acc, done, r', rfl, ok3, ?_⟩
          have T : Step cc c3 := t2.trans ok2 t3
          refine ⟨tc.trans okc T, T.h L _ hacc hnd, T.n L obL hF, fun z => hnd (T.g L obL z), racc.mono T.f, by omega, ?_, ?_⟩
          · rw [es3, ← a5]
            exact w2
          · rw [← hr, w3, a4]
            rfl
    · have ei : i = ds.length := by omega
      subst ei
      rw [List.drop_length] at hw
      cases hw
      rw [List.append_nil] at hr
      subst hr
      have st := (gd cc (hG cc (by rw [if_neg Bool.false_ne_true]; exact tc)) okc ds.length).1 (Nat.le_refl _)
      exact .inl ⟨st, p1 (.ref L) cc rfl tc okc ⟨L, rfl, ⟨⟨acc, hacc, racc⟩, hF, hnd⟩, hL⟩⟩
end
section
variable {X : Cx} {Y : Sys} {W : WX} {n : Nat} {N : List Str} {sc scope : Scope} {pos spos py : Pos} {tg' iter' elt' : Expr} {ifs' : List Expr} {it : CI Y.S} {tg : Tg} {ifs : CA Y.S} {elt : CE Y.S} {vs : List Nat}
theorem Cxt.blk (C : Cxt X W n N sc) (s : Shared) (H : Hp) (L : Addr) (cl : List (Str × Addr)) (fp : List Addr) : Cxt (X.blk s H scope (compEnvC scope cl L X.env) fp) W0 n N (relS scope sc) where
  hN := C.hN
  hs := by rw [← C.hs]; rfl
  nd := C.nd
  calm := C.calm
  room := C.room
  tk := takes0
  we := ⟨fun _ _ _ => False, rfl⟩
  blt := C.blt
theorem own_snd : (vs.map fun i => ((N.getD i "" : Str), i)).map (·.2) = vs := by
  rw [List.map_map]
  exact List.map_id _
theorem se_lc (C : Cxt X W n N sc) (hz : zipI it = true → consT tg = true) (hI : PI X tg' iter' (tI X.K X.mg W false it)) (hset : notSet iter' = true) (hblk : blkC N sc scope (vs.map fun i => (N.getD i "", i)) = true) (hsl : (slots tg).all (fun i => vs.contains i) = true)
    (hT : chkT N (relS scope sc) (fun x => scope.names.lookup x == some .cell) tg tg' = true)
    (hC : ∀ X' : Cx, X'.prog = X.prog → X'.w = X.w → X'.K = X.K → X'.mg = X.mg → X'.base = X.base → Cxt X' W0 n N (relS scope sc) → PTs X' ifs' (tTs X.K X.mg W0 ifs))
    (hE : ∀ X' : Cx, X'.prog = X.prog → X'.w = X.w → X'.K = X.K → X'.mg = X.mg → X'.base = X.base → Cxt X' W0 n N (relS scope sc) → PE X' elt' (tE X.K X.mg W0 elt)) :
    PE X (.ListComp elt' [⟨tg', iter', ifs', 0⟩] scope pos) (tE X.K X.mg W (.lc it tg ifs elt vs)) ∧
    (∀ {i : Nat} {y : Str}, N[i]? = some y → sc.names.lookup y = some .local → swapsWith (.ListComp elt' [⟨tg', iter', ifs', 0⟩] scope pos) (some (.Name y py)) spos.line X.env = pure true →
      PS X (.Assign [.Name y py] (.ListComp elt' [⟨tg', iter', ifs', 0⟩] scope pos) spos) (tAsg (tE X.K X.mg W (.lc it tg ifs elt vs)) (gName i))) := by
  have hsl' : ∀ i ∈ slots tg, i ∈ vs := fun i hi => List.contains_iff_mem.mp (List.all_eq_true.mp hsl i hi)
  have ok : BlkOk X.N X.env.scope scope (vs.map fun i => (N.getD i "", i)) := by
    rw [C.hN, C.hs]
    exact blkOk_by hblk
  have hg : ∀ (s : Shared) (H : Hp) (L : Addr) (cl : List (Str × Addr)) (fp : List Addr), PG (X.blk s H scope (compEnvC scope cl L X.env) fp) tg' (gT X.K tg) := fun s H L cl fp =>
    pg_ok (X := X.blk s H scope (compEnvC scope cl L X.env) fp) C.hN (C.blk s H L cl fp).hs C.nd C.calm rfl hT
  refine ⟨?_, fun {i y} hi hl hsw => ?_⟩
  · refine (pe_lc (own := vs.map fun i => (N.getD i "", i)) C.calm (by rw [C.hN]; exact C.nd) hI ok hg (fun s H L cl fp => hC _ rfl rfl rfl rfl rfl (C.blk s H L cl fp)) (fun s H L cl fp => hE _ rfl rfl rfl rfl rfl (C.blk s H L cl fp)) (set_ok hset)).weak fun σ H Q h => ?_
    rw [own_snd]
    exact lc_use hz hsl' h
  · have q := ps_setLc (i := i) (y := y) (py := py) (pos := pos) (spos := spos) (own := vs.map fun i => (N.getD i "", i)) C.calm (by rw [C.hN]; exact C.nd) (by rw [C.hN]; exact hi) (by rw [C.hs]; exact hl) hsw hI ok hg (fun s H L cl fp => hC _ rfl rfl rfl rfl rfl (C.blk s H L cl fp)) (fun s H L cl fp => hE _ rfl rfl rfl rfl rfl (C.blk s H L cl fp)) (set_ok hset)
    rw [own_snd] at q
    exact ⟨fun pins s σ H D I h => q.run pins s σ H D I (lc_use hz hsl' h)⟩
end

theorem Rel.hide {Y : Sys} {K : PySem.W.Frag} {H0 : Hp} {c : Cf Y} {σ : L2.St} {ρ : List SV} (r : Rel K H0 c σ ρ) : Rel K H0 c σ (hideR ρ) where
  len := by unfold hideR; rw [List.length_map]; exact r.len
  va := fun i d e => by
    unfold hideR at e
    rw [List.getElem?_map] at e
    obtain ⟨x, h1, h2⟩ := Option.map_eq_some_iff.mp e
    cases x <;> first | cases h2 | skip
    exact r.va i d h1
  ow := fun i d e => by
    unfold hideR at e
    rw [List.getElem?_map] at e
    obtain ⟨x, h1, h2⟩ := Option.map_eq_some_iff.mp e
    cases x <;> cases h2
  ap := fun i j d e p _ h => by
    unfold hideR at h
    rw [List.getElem?_map] at h
    obtain ⟨x, h1, h2⟩ := Option.map_eq_some_iff.mp h
    cases x <;> cases h2
theorem hide_no {ρ : List SV} {i : Nat} {d : D} : (hideR ρ)[i]? ≠ some (.ow d) := by
  unfold hideR
  rw [List.getElem?_map]
  intro e
  obtain ⟨x, h1, h2⟩ := Option.map_eq_some_iff.mp e
  cases x <;> cases h2
theorem Rel.free {Y : Sys} {K : PySem.W.Frag} {H0 : Hp} {c c' : Cf Y} {σ : L2.St} {ρ : List SV} (r : Rel K H0 c σ (hideR ρ)) (f : Sub c.F c'.F) : Rel K H0 c' σ (hideR ρ) where
  len := r.len
  va := fun i d e => let ⟨v, h, q⟩ := r.va i d e; ⟨v, h, q.mono f⟩
  ow := fun i d e => absurd e hide_no
  ap := fun i j d e p _ h => absurd h hide_no
def lc2F {S : Type} (tg : Tg) (it1 : CI S) (tg1 : Tg) (elt : CE S) (vs1 : List Nat) (ρ : List SV) : D → S → Res S (List D) := fun d s => match asgT tg d ρ with
  | none => .er
  | some ρ' => (noEx (evI true it1 (hideR ρ') s)).bind fun ds1 s => walkR (lcF tg1 .nil elt (wipeR (hideR ρ') vs1)) ds1 s
theorem lcF_nil {S : Type} {tg : Tg} {elt : CE S} {ρ : List SV} : lcF tg .nil elt ρ = fun d s => match asgT tg d ρ with
    | none => .er
    | some ρ2 => (noEx (ev elt ρ2 s)).bind fun y s => (dat y s).bind fun e s => .ok (some e) s := by
  funext d s
  unfold lcF
  split <;> rfl
theorem ev_lc2 {S : Type} (it : CI S) (tg : Tg) (it1 : CI S) (tg1 : Tg) (elt : CE S) (vs vs1 : List Nat) (ρ : List SV) (s : S) : ev (.lc2 it tg it1 tg1 elt vs vs1) ρ s =
    (evI false it ρ s).bind fun ds s => if !lenOk ds.length then .er else (walkL (lc2F tg it1 tg1 elt vs1 (wipeR (hideR ρ) vs)) ds s).bind fun r s => if lenOk r.length then .ok (.t, .lst r) s else .er := by
  have e : lc2F tg it1 tg1 elt vs1 (wipeR (hideR ρ) vs) = fun d s => match asgT tg d (wipeR (hideR ρ) vs) with
      | none => .er
      | some ρ' => (noEx (evI true it1 (hideR ρ') s)).bind fun ds1 s => walkR (fun d1 s => match asgT tg1 d1 (wipeR (hideR ρ') vs1) with
        | none => .er
        | some ρ2 => (noEx (ev elt ρ2 s)).bind fun y s => (dat y s).bind fun e s => .ok (some e) s) ds1 s := by
    funext d s
    unfold lc2F
    simp only [lcF_nil]
  first
    | (rw [ev, e]; done)
    | (rw [ev, e]; rfl)
theorem walkL_cons {S : Type} {f : D → S → Res S (List D)} {d : D} {ds : List D} {s s' : S} {r : List D} (h : walkL f (d :: ds) s = .ok r s') : ∃ o s1 r', f d s = .ok o s1 ∧ walkL f ds s1 = .ok r' s' ∧ r = o ++ r' := by
  unfold walkL at h
  obtain ⟨o, s1, h1, h2⟩ := bind_ok h
  obtain ⟨r', s2, h3, h4⟩ := bind_ok h2
  cases h4
  exact ⟨o, s1, r', h1, h3, rfl⟩
theorem walkL_ex {S : Type} {f : D → S → Res S (List D)} (hf : ∀ d s x s', f d s ≠ .ex x s') : ∀ (ds : List D) (s : S) (x : Str) (s' : S), walkL f ds s ≠ .ex x s'
  | [], _, _, _ => fun z => nomatch z
  | d :: ds, s, x, s' => by
    unfold walkL
    cases e : f d s with
    | ok o s1 =>
      show ((walkL f ds s1).bind _) ≠ _
      cases e2 : walkL f ds s1 with
      | ok r s2 => exact fun z => nomatch z
      | ex y s2 => exact absurd e2 (walkL_ex hf ds s1 y s2)
      | er => exact fun z => nomatch z
    | ex y s2 => exact absurd e (hf d s y s2)
    | er => exact fun z => nomatch z
theorem lc2F_ex {S : Type} {tg : Tg} {it1 : CI S} {tg1 : Tg} {elt : CE S} {vs1 : List Nat} {ρ : List SV} {d : D} {s s' : S} {x : Str} : lc2F tg it1 tg1 elt vs1 ρ d s ≠ .ex x s' := by
  unfold lc2F
  split
  · exact fun z => nomatch z
  · rename_i ρ' e
    cases evI true it1 (hideR ρ') s with
    | ok ds1 s1 => exact walkR_ex (fun _ _ _ _ => lcF_ex) _ _ _ _
    | _ => exact fun z => nomatch z
theorem lc2F_ok {S : Type} {tg : Tg} {it1 : CI S} {tg1 : Tg} {elt : CE S} {vs1 : List Nat} {ρ : List SV} {d : D} {s s' : S} {o : List D} (h : lc2F tg it1 tg1 elt vs1 ρ d s = .ok o s') :
    ∃ ρ' ds1 s1, asgT tg d ρ = some ρ' ∧ evI true it1 (hideR ρ') s = .ok ds1 s1 ∧ walkR (lcF tg1 .nil elt (wipeR (hideR ρ') vs1)) ds1 s1 = .ok o s' := by
  unfold lc2F at h
  split at h
  · cases h
  · rename_i ρ' e
    obtain ⟨ds1, s1, h1, h2⟩ := bind_ok h
    exact ⟨ρ', ds1, s1, e, noEx_ok h1, h2⟩
section
variable {Y : Sys} {K : PySem.W.Frag} {mg : Str → Option Value} {W : WX}
theorem lc2_use {it it1 : CI Y.S} {tg tg1 : Tg} {elt : CE Y.S} {vs vs1 : List Nat} (hz : zipI it = true → consT tg = true) (hz1 : zipI it1 = true → consT tg1 = true) (hsl : ∀ i ∈ slots tg, i ∈ vs) (hsl1 : ∀ i ∈ slots tg1, i ∈ vs1) {σ : L2.St} {H : Hp} {Q : VK} (h : tE K mg W (.lc2 it tg it1 tg1 elt vs vs1) σ H Q) :
    tLc2 (tI K mg W false it) (gT K tg) (tTs (Y := Y) K mg W0 .nil) (tI K mg W0 true it1) (gT K tg1) (tTs (Y := Y) K mg W0 .nil) (tE K mg W0 elt) vs vs1 σ H Q := by
  obtain ⟨c, H0, ρ, rfl, ok, rel, p⟩ := h
  rw [ev_lc2] at p
  refine tR.bind ok rel p fun J c1 ds ea t1 ok1 rel1 j1 p1 => ?_
  obtain ⟨G, gd, hG⟩ := j1
  intro L hL
  have p1 := p1.shiftE t1 ok1
  split at p1
  · exact p1.elim
  rename_i hlen
  cases ew : walkL (lc2F tg it1 tg1 elt vs1 (wipeR (hideR ρ) vs)) ds c1.s with
  | er => rw [ew] at p1; exact p1.elim
  | ex x s' => exact absurd ew (walkL_ex (fun _ _ _ _ => lc2F_ex) _ _ _ _)
  | ok r s' =>
    rw [ew] at p1
    have p1 : Post mg W σ c1 (JE K c1) Q (if lenOk r.length then .ok (.t, .lst r) s' else .er) := p1
    split at p1
    case isFalse => exact p1.elim
    rename_i hrl
    have hrl : r.length ≤ 1000000 := of_decide_eq_true hrl
    have p1 : ∀ v (c' : Cf Y), c'.s = s' → Step c1 c' → Ok c' → Is K c1.H c' .t v (.lst r) → Q v c'.H := p1
    refine ⟨fun i m H => m = ds.length - i ∧ i ≤ ds.length ∧ ∃ (cc : Cf Y) (acc : List V) (done rest : List D), cc.H = H ∧ Ok cc ∧ Step c1 cc ∧ cc.H L = some (.lst acc) ∧ cc.F L = none ∧ ¬ Y.dm cc.g L ∧ Reps K cc.F acc done ∧
      walkL (lc2F tg it1 tg1 elt vs1 (wipeR (hideR ρ) vs)) (ds.drop i) cc.s = .ok rest s' ∧ done ++ rest = r,
      ⟨ds.length, rfl, Nat.zero_le _, ⟨c1.F, upd c1.H L (.lst []), c1.s, c1.g⟩, [], [], r, rfl, ok1.own hL _, Step.own ok1 hL _, upd_same, ok1.fr hL, fun z => ok1.has L z hL, .nil, ew, rfl⟩, fun i m H hW => ?_⟩
    obtain ⟨rfl, hi, cc, acc, done, rest, rfl, okc, tc, hacc, hF, hnd, racc, hw, hr⟩ := hW
    by_cases hlt : i < ds.length
    · have hd : ds[i]? = some ds[i] := List.getElem?_eq_getElem hlt
      have edrop : ds.drop i = ds[i] :: ds.drop (i + 1) := List.drop_eq_getElem_cons hlt
      rw [edrop] at hw
      obtain ⟨o, s1, r', w1, w2, w3⟩ := walkL_cons hw
      obtain ⟨ρ', ds1, s2, a1, a2, a3⟩ := lc2F_ok w1
      obtain ⟨go, yl⟩ := (gd cc (hG cc (by rw [if_neg Bool.false_ne_true]; exact tc)) okc i).2 _ hd
      refine .inr ⟨go, fun H' => ds.length - (i + 1) = ds.length - (i + 1) ∧ i + 1 ≤ ds.length ∧ ∃ (cc : Cf Y) (acc : List V) (done rest : List D), cc.H = H' ∧ Ok cc ∧ Step c1 cc ∧ cc.H L = some (.lst acc) ∧ cc.F L = none ∧ ¬ Y.dm cc.g L ∧ Reps K cc.F acc done ∧
        walkL (lc2F tg it1 tg1 elt vs1 (wipeR (hideR ρ) vs)) (ds.drop (i + 1)) cc.s = .ok rest s' ∧ done ++ rest = r, fun H' hN => ⟨ds.length - (i + 1), by omega, hN⟩, fun x H' hy => ?_⟩
      obtain ⟨c2, rfl, es2, t2, ok2, rx⟩ := yl x H' hy
      have rel2 : Rel K H0 c2 (wipe σ vs) (wipeR (hideR ρ) vs) := (rel1.step (tc.trans okc t2)).hide.wipe vs
      have obL : cc.H L ≠ none := by rw [hacc]; exact fun z => nomatch z
      refine gT_any ok2 hz a1 rel2 rx fun σ' rel' l' s' => ⟨?_, ?_⟩
      · rw [← wipe_wipe (σ := σ) (vs := vs)]
        exact wipe_ext l' fun j hj => s' j fun z => hj (hsl j z)
      · refine ⟨c2, H0, ρ', rfl, ok2, rel', ?_⟩
        show Post mg W0 σ' c2 (JB c2) _ (.ok true c2.s)
        intro b c3 es3 t3 ok3 hb
        have hb : b = true := hb
        subst hb
        refine iteT ⟨c3, H0, hideR ρ', rfl, ok3, (rel'.step t3).hide, ?_⟩
        rw [es3, es2, a2]
        intro J1 c4 es4 t4 ok4 j4
        obtain ⟨G1, gd1, hG1⟩ := j4
        have rel4 : Rel K H0 c4 σ' (hideR ρ') := ((rel'.step t3).step t4).hide
        have T4 : Step cc c4 := t2.trans ok2 (t3.trans ok3 t4)
        refine ⟨fun j k H => k = ds1.length - j ∧ j ≤ ds1.length ∧ ∃ (cd : Cf Y) (acc : List V) (done rest1 : List D), cd.H = H ∧ Ok cd ∧ Step c1 cd ∧ Sub c4.F cd.F ∧ cd.H L = some (.lst acc) ∧ cd.F L = none ∧ ¬ Y.dm cd.g L ∧ Reps K cd.F acc done ∧
          walkR (lcF tg1 .nil elt (wipeR (hideR ρ') vs1)) (ds1.drop j) cd.s = .ok rest1 s1 ∧ done ++ (rest1 ++ r') = r,
          ⟨ds1.length, rfl, Nat.zero_le _, c4, acc, done, o, rfl, ok4, tc.trans okc T4, Sub.refl _, T4.h L _ hacc hnd, T4.n L obL hF, fun z => hnd (T4.g L obL z), racc.mono T4.f, by rw [List.drop_zero, es4]; exact a3, by rw [← w3]; exact hr⟩, fun j k H hW1 => ?_⟩
        obtain ⟨rfl, hj, cd, acc, done, rest1, rfl, okd, td, fd, hacc, hF, hnd, racc, hw1, hr1⟩ := hW1
        have hGd : G1 cd := hG1 cd (by rw [if_pos rfl]; exact fd)
        by_cases hlt1 : j < ds1.length
        · have hd1 : ds1[j]? = some ds1[j] := List.getElem?_eq_getElem hlt1
          have edrop1 : ds1.drop j = ds1[j] :: ds1.drop (j + 1) := List.drop_eq_getElem_cons hlt1
          rw [edrop1] at hw1
          obtain ⟨o1, s5, r1', v1, v2, v3⟩ := walkR_cons hw1
          obtain ⟨ρ2, kk, s6, b1, b2, b3⟩ := lcF_ok v1
          obtain ⟨go1, yl1⟩ := (gd1 cd hGd okd j).2 _ hd1
          refine .inr ⟨go1, fun H' => ds1.length - (j + 1) = ds1.length - (j + 1) ∧ j + 1 ≤ ds1.length ∧ ∃ (cd : Cf Y) (acc : List V) (done rest1 : List D), cd.H = H' ∧ Ok cd ∧ Step c1 cd ∧ Sub c4.F cd.F ∧ cd.H L = some (.lst acc) ∧ cd.F L = none ∧ ¬ Y.dm cd.g L ∧ Reps K cd.F acc done ∧
            walkR (lcF tg1 .nil elt (wipeR (hideR ρ') vs1)) (ds1.drop (j + 1)) cd.s = .ok rest1 s1 ∧ done ++ (rest1 ++ r') = r, fun H' hN => ⟨ds1.length - (j + 1), by omega, hN⟩, fun x1 H1' hy1 => ?_⟩
          obtain ⟨c5, rfl, es5, t5, ok5, rx1⟩ := yl1 x1 H1' hy1
          have rel5 : Rel K H0 c5 (wipe σ' vs1) (wipeR (hideR ρ') vs1) := (rel4.free (fd.trans t5.f)).wipe vs1
          have obL1 : cd.H L ≠ none := by rw [hacc]; exact fun z => nomatch z
          refine gT_any ok5 hz1 b1 rel5 rx1 fun σ3 rel3 l3 s3 => ⟨?_, ?_⟩
          · rw [← wipe_wipe (σ := σ') (vs := vs1)]
            exact wipe_ext l3 fun q hq => s3 q fun z => hq (hsl1 q z)
          · refine ⟨c5, H0, ρ2, rfl, ok5, rel3, ?_⟩
            rw [es5, b2]
            intro b c6 es6 t6 ok6 hb
            have hb : b = kk := hb
            subst hb
            have b2' : Res.ok true cd.s = Res.ok b s6 := b2
            cases b2'
            rcases b3 with ⟨_, y, b4, b5, b6⟩ | ⟨b4, _⟩
            · refine iteT ⟨c6, H0, ρ2, rfl, ok6, rel3.step t6, ?_⟩
              rw [es6, b4]
              intro v c7 es7 t7 ok7 j7
              obtain ⟨c8, es8, eh8, t8, ok8, r8⟩ := Is.data j7 b5 t7 ok7
              have T : Step cd c8 := t5.trans ok5 (t6.trans ok6 t8)
              have hacc8 : c8.H L = some (.lst acc) := T.h L _ hacc hnd
              have hF8 : c8.F L = none := T.n L obL1 hF
              have hnd8 : ¬ Y.dm c8.g L := fun z => hnd (T.g L obL1 z)
              rw [← eh8]
              have hal : acc.length ≤ r.length := by
                rw [racc.length, ← hr1, List.length_append]
                omega
              refine ⟨acc, hacc8, ?_, rfl, hlt1, ⟨c8.F, upd c8.H L (.lst (acc ++ [v])), c8.s, c8.g⟩, acc ++ [v], done ++ [y.2], r1', rfl, ok8.mut hF8 hnd8 _, (td.trans okd T).mut hL _, fd.trans T.f, upd_same, hF8, hnd8, (racc.mono T.f).append (.cons r8 .nil), ?_, ?_⟩
              · have e : sizeLine = 16777216 := by decide
                omega
              · rw [es8, es7]
                exact v2
              · rw [← hr1, v3, b6]
                simp
            · cases b4
        · have ej : j = ds1.length := by omega
          subst ej
          rw [List.drop_length] at hw1
          cases hw1
          have st1 := (gd1 cd hGd okd ds1.length).1 (Nat.le_refl _)
          exact .inl ⟨st1, rfl, by omega, cd, acc, done, r', rfl, okd, td, hacc, hF, hnd, racc, w2, hr1⟩
    · have ei : i = ds.length := by omega
      subst ei
      rw [List.drop_length] at hw
      cases hw
      rw [List.append_nil] at hr
      subst hr
      have st := (gd cc (hG cc (by rw [if_neg Bool.false_ne_true]; exact tc)) okc ds.length).1 (Nat.le_refl _)
      exact .inl ⟨st, p1 (.ref L) cc rfl tc okc ⟨L, rfl, ⟨⟨acc, hacc, racc⟩, hF, hnd⟩, hL⟩⟩
end
section
variable {X : Cx} {Y : Sys} {W : WX} {n : Nat} {N : List Str} {sc scope : Scope} {pos spos py : Pos} {tg' iter' elt' tg1' iter1' : Expr} {it it1 : CI Y.S} {tg tg1 : Tg} {elt : CE Y.S} {vs vs1 : List Nat}
theorem se_lc2 (C : Cxt X W n N sc) (hz : zipI it = true → consT tg = true) (hz1 : zipI it1 = true → consT tg1 = true) (hI : PI X tg' iter' (tI X.K X.mg W false it)) (hset : notSet iter' = true) (hset1 : notSet iter1' = true) (hblk : blkC N sc scope (vs.map fun i => (N.getD i "", i)) = true) (hsl : (slots tg).all (fun i => vs.contains i) = true) (hsl1 : (slots tg1).all (fun i => vs1.contains i) = true) (hv : vs1.all (fun i => vs.contains i) = true)
    (hT : chkT N (relS scope sc) (fun x => scope.names.lookup x == some .cell) tg tg' = true) (hT1 : chkT N (relS scope sc) (fun x => scope.names.lookup x == some .cell) tg1 tg1' = true)
    (hN1 : ∀ X' : Cx, X'.prog = X.prog → X'.w = X.w → X'.K = X.K → X'.mg = X.mg → X'.base = X.base → Cxt X' W0 n N (relS scope sc) → PTs X' [] (tTs (Y := Y) X.K X.mg W0 .nil))
    (hI1 : ∀ X' : Cx, X'.prog = X.prog → X'.w = X.w → X'.K = X.K → X'.mg = X.mg → X'.base = X.base → Cxt X' W0 n N (relS scope sc) → PI X' tg1' iter1' (tI X.K X.mg W0 true it1))
    (hE : ∀ X' : Cx, X'.prog = X.prog → X'.w = X.w → X'.K = X.K → X'.mg = X.mg → X'.base = X.base → Cxt X' W0 n N (relS scope sc) → PE X' elt' (tE X.K X.mg W0 elt)) :
    PE X (.ListComp elt' [⟨tg', iter', [], 0⟩, ⟨tg1', iter1', [], 0⟩] scope pos) (tE X.K X.mg W (.lc2 it tg it1 tg1 elt vs vs1)) ∧
    (∀ {i : Nat} {y : Str}, N[i]? = some y → sc.names.lookup y = some .local → swapsWith (.ListComp elt' [⟨tg', iter', [], 0⟩, ⟨tg1', iter1', [], 0⟩] scope pos) (some (.Name y py)) spos.line X.env = pure true →
      PS X (.Assign [.Name y py] (.ListComp elt' [⟨tg', iter', [], 0⟩, ⟨tg1', iter1', [], 0⟩] scope pos) spos) (tAsg (tE X.K X.mg W (.lc2 it tg it1 tg1 elt vs vs1)) (gName i))) := by
  have hsl' : ∀ i ∈ slots tg, i ∈ vs := fun i hi => List.contains_iff_mem.mp (List.all_eq_true.mp hsl i hi)
  have hsl1' : ∀ i ∈ slots tg1, i ∈ vs1 := fun i hi => List.contains_iff_mem.mp (List.all_eq_true.mp hsl1 i hi)
  have hv' : ∀ i ∈ vs1, i ∈ (vs.map fun i => ((N.getD i "" : Str), i)).map (·.2) := fun i hi => by
    rw [own_snd]
    exact List.contains_iff_mem.mp (List.all_eq_true.mp hv i hi)
  have ok : BlkOk X.N X.env.scope scope (vs.map fun i => (N.getD i "", i)) := by
    rw [C.hN, C.hs]
    exact blkOk_by hblk
  have hg : ∀ {t : Tg} {t' : Expr}, chkT N (relS scope sc) (fun x => scope.names.lookup x == some .cell) t t' = true → ∀ (s : Shared) (H : Hp) (L : Addr) (cl : List (Str × Addr)) (fp : List Addr), PG (X.blk s H scope (compEnvC scope cl L X.env) fp) t' (gT X.K t) := fun hT s H L cl fp =>
    pg_ok (X := X.blk s H scope (compEnvC scope cl L X.env) fp) C.hN (C.blk s H L cl fp).hs C.nd C.calm rfl hT
  refine ⟨?_, fun {i y} hi hl hsw => ?_⟩
  · refine (pe_lc2 (own := vs.map fun i => (N.getD i "", i)) (vs1 := vs1) C.calm (by rw [C.hN]; exact C.nd) hI ok hv' (hg hT) (fun s H L cl fp => hN1 _ rfl rfl rfl rfl rfl (C.blk s H L cl fp)) (fun s H L cl fp => hI1 _ rfl rfl rfl rfl rfl (C.blk s H L cl fp)) (hg hT1) (fun s H L cl fp => hN1 _ rfl rfl rfl rfl rfl (C.blk s H L cl fp)) (fun s H L cl fp => hE _ rfl rfl rfl rfl rfl (C.blk s H L cl fp)) (set_ok hset) (fun _ => set_ok hset1)).weak fun σ H Q h => ?_
    rw [own_snd]
    exact lc2_use hz hz1 hsl' hsl1' h
  · have q := ps_setLc2 (i := i) (y := y) (py := py) (pos := pos) (spos := spos) (own := vs.map fun i => (N.getD i "", i)) (vs1 := vs1) C.calm (by rw [C.hN]; exact C.nd) (by rw [C.hN]; exact hi) (by rw [C.hs]; exact hl) hsw hI ok hv' (hg hT) (fun s H L cl fp => hN1 _ rfl rfl rfl rfl rfl (C.blk s H L cl fp)) (fun s H L cl fp => hI1 _ rfl rfl rfl rfl rfl (C.blk s H L cl fp)) (hg hT1) (fun s H L cl fp => hN1 _ rfl rfl rfl rfl rfl (C.blk s H L cl fp)) (fun s H L cl fp => hE _ rfl rfl rfl rfl rfl (C.blk s H L cl fp)) (set_ok hset) (fun _ => set_ok hset1)
    rw [own_snd] at q
    exact ⟨fun pins s σ H D I h => q.run pins s σ H D I (lc2_use hz hz1 hsl' hsl1' h)⟩
end
end Mf
set_option Elab.async false
set_option linter.all false
set_option maxRecDepth 100000
set_option maxHeartbeats 4000000
namespace Mf
open PySem L2 PySem.Spec PyProof.Rows
def kOf (e : Int × Value) : Key := match e.2 with | .int k _ => .inl k | .str x _ => .inr x | _ => .inl 0
def GdK (w : World) (e : Int × Value) : Prop := ∃ k : Key, RelV (kV k) e.2 ∧ e.1 = keyH w k
theorem kOf_rel {k : Key} {h : Int} {u : Value} (r : RelV (kV k) u) : kOf (h, u) = k := by
  cases k with
  | inl i => obtain ⟨t, e⟩ := (show ∃ t, u = Value.int i t from r); subst e; rfl
  | inr x => obtain ⟨t, e⟩ := (show ∃ t, u = Value.str x t from r); subst e; rfl
def memK (ks : List Key) (j : Key) : Bool := ks.any fun x => decide (x = j)
theorem memK_iff {ks : List Key} {j : Key} : memK ks j = true ↔ j ∈ ks := by
  unfold memK
  rw [List.any_eq_true]
  exact ⟨fun ⟨x, hx, e⟩ => of_decide_eq_true e ▸ hx, fun h => ⟨j, h, decide_eq_true rfl⟩⟩
def encK : Key → PyData
  | .inl i => .int i
  | .inr x => .str x
def SetM (w : World) (h : Heap) (a : Addr) (S : Key → Bool) (n : Nat) : Prop :=
  ∃ o es ep t, h.get? a = some o ∧ o.ExactSet ∧ o.data = .set es ep t ∧ (∀ e ∈ es.toList, GdK w e) ∧ (es.toList.map kOf).Nodup ∧ (∀ k, S k = true ↔ k ∈ es.toList.map kOf) ∧
    es.size < scanBound ∧ t.fits es.size = true ∧ es.size = n ∧ Ris t.place.toList ∧ (w.params.followText "set-order" = true ∨ t.led = true)
section
variable {P : Program} {w : World} {h h' : Heap} {a : Addr} {S : Key → Bool} {n : Nat}
theorem SetM.at (R : SetM w h a S n) (k : ∀ o, h.get? a = some o → h'.get? a = some o) : SetM w h' a S n := let ⟨o, es, ep, t, ho, r⟩ := R; ⟨o, es, ep, t, k o ho, r⟩
theorem SetM.congr {S' : Key → Bool} (R : SetM w h a S n) (e : ∀ k, S' k = S k) : SetM w h a S' n := by
  rw [show S' = S from funext e]; exact R
theorem gd_elems {l : List (Int × Value)} (g : ∀ e ∈ l, GdK w e) : ElemsOf (mixKind P w) l := fun e he => by
  obtain ⟨k, h1, h2⟩ := g e he
  exact ⟨⟨k, kV_is h1, h2⟩, key_scan h1⟩
theorem gd_is {e : Int × Value} (g : GdK w e) (k : Key) : (mixKind P w).is k e.2 = true ↔ kOf e = k := by
  obtain ⟨h0, u⟩ := e
  obtain ⟨k0, h1, _⟩ := g
  rw [kOf_rel h1]
  constructor
  · intro z
    exact (mixKind P w).inj u k0 k (kV_is h1) z
  · intro z; subst z; exact kV_is h1
theorem gd_mem {l : List (Int × Value)} (g : ∀ e ∈ l, GdK w e) (k : Key) : k ∈ l.map kOf ↔ ∃ e ∈ l, (mixKind P w).is k e.2 = true := by
  rw [List.mem_map]
  exact ⟨fun ⟨e, he, q⟩ => ⟨e, he, (gd_is (g e he) k).2 q⟩, fun ⟨e, he, q⟩ => ⟨e, he, (gd_is (g e he) k).1 q⟩⟩
end
section
variable {P : Program} {w : World} {A : Around} {E : Value → Shared → Prop} {s : Shared} {a : Addr} {S : Key → Bool} {n : Nat}
theorem setM_tail {g : Bool → PySem.Sem Unit} (hg : ∀ (b : Bool) (s₁ : Shared) (Q' : Unit → Shared → Prop), Q' () s₁ → wpAny (model P w) A (g b) Q' E s₁)
    {o : Obj} {es : Array (Int × Value)} {ep : Nat} {t : SetTable} (ho : s.heap.get? a = some o) (hex : o.ExactSet) (hd : o.data = .set es ep t)
    {es1 : Array (Int × Value)} {t2 : SetTable} {S' : Key → Bool} (g1 : ∀ e ∈ es1.toList, GdK w e) (nd1 : (es1.toList.map kOf).Nodup) (m1 : ∀ k, S' k = true ↔ k ∈ es1.toList.map kOf)
    (hb1 : es1.size < scanBound) (hf2 : t2.fits es1.size = true) (hr : Ris t2.place.toList) (hl : w.params.followText "set-order" = true ∨ t2.led = true) {wasD : Bool} {R : Option Bool → Shared → Prop}
    (hR : ∀ h', Heap.SameBut a s.heap h' → SetM w h' a S' es1.size → R (some true) { s with heap := h' }) :
    wpAny (model P w) A (do
        storeSet a es1 t2
        if (!wasD && t2.tooFull) = true then do
            g (relayAll t2 es1 (SetTable.grown es1.size)).2.2; storeSet a (relayAll t2 es1 (SetTable.grown es1.size)).1 (relayAll t2 es1 (SetTable.grown es1.size)).2.1
            pure (some true)
          else pure (some true)) R E s := by
  refine wpAny_bind (wpAny_storeSet_of ho hd ?_ (fits_of_scanBound hb1))
  have ho1 := store_at (es' := es1) (t' := t2) ho hd
  have sb1 := Heap.SameBut.update s.heap a (Obj.putSet es1 t2)
  split
  · have q1 := relayAll_perm t2 es1 (SetTable.grown es1.size)
    have q2 := relayAll_fits t2 es1 (SetTable.grown es1.size)
    have q3 := relayAll_ris t2 es1 (SetTable.grown es1.size)
    have q4 := relayAll_led t2 es1 (SetTable.grown es1.size)
    generalize relayAll t2 es1 (SetTable.grown es1.size) = Z at q1 q2 q3 q4 ⊢
    obtain ⟨es2, t3, gv⟩ := Z
    dsimp only at q1 q2 q3 q4 ⊢
    have hsz : es2.size = es1.size := by rw [← Array.length_toList, q1.length_eq, Array.length_toList]
    have hb2 : es2.size < scanBound := hsz ▸ hb1
    refine wpAny_bind (hg _ _ _ (wpAny_bind (wpAny_storeSet_of ho1 rfl (wpAny_pure (hR _ (sb1.trans (Heap.SameBut.update _ a _)) ?_)) (fits_of_scanBound hb2))))
    exact ⟨_, es2, _, t3, store_at (es' := es2) (t' := t3) ho1 rfl, hex, rfl, fun e he => g1 e (q1.mem_iff.mp he), (q1.map kOf).nodup_iff.mpr nd1, fun k => (m1 k).trans (q1.map kOf).mem_iff.symm, hb2, q2, hsz, q3, hl.imp id fun z => by rw [q4]; exact z⟩
  · exact wpAny_pure (hR _ sb1 ⟨_, es1, _, t2, ho1, hex, rfl, g1, nd1, m1, hb1, hf2, rfl, hr, hl⟩)
theorem setM_add {k : Key} {u : Value} (ru : RelV (kV k) u) {Q : Bool → Shared → Prop} (R : SetM w s.heap a S n) (room : n + 1 < scanBound)
    (hQ : ∀ h', Heap.SameBut a s.heap h' → SetM w h' a (fun j => S j || decide (j = k)) (if S k = true then n else n + 1) → Q (!S k) { s with heap := h' }) :
    wpAny (model P w) A (setAddHashed a u ((mixKind P w).hash k)) Q E s := by
  obtain ⟨o, es, ep, t, ho, hex, hd, g, nd, hm, hb, hf, hn, hr, hl⟩ := R
  have hsc : u.scannable = true := key_scan ru
  have hel : ElemsOf (mixKind P w) es.toList := gd_elems g
  unfold setAddHashed setAddHashedIn
  refine wpAny_holding (wpAny_bind (wpAny_setState_of ho hd hf ?_))
  dsimp only
  rw [byScan_of hsc hb hel]
  simp only [↓reduceIte]
  unfold setAddByScan
  refine wpAny_bind (wpAny_bind (wpAny_rule (wpAny_bind (wpAny_setScan_of (kV_is (P := P) ru) ho hd hf hel ?_))))
  cases hfi : List.findIdx? (fun e => (mixKind P w).is k e.2) es.toList with
  | some j =>
    dsimp only
    obtain ⟨hj, pj, _⟩ := List.findIdx?_eq_some_iff_getElem.mp hfi
    have hSk : S k = true := (hm k).2 ((gd_mem (P := P) (w := w) g k).2 ⟨es.toList[j], List.getElem_mem hj, pj⟩)
    have q := hQ s.heap (Heap.SameBut.refl a s.heap) ⟨o, es, ep, t, ho, hex, hd, g, nd, fun i => by
      rw [Bool.or_eq_true, decide_eq_true_eq, ← hm i]; exact ⟨fun z => z.elim id (fun e => e ▸ hSk), .inl⟩, hb, hf, by rw [if_pos hSk]; exact hn, hr, hl⟩
    rw [hSk] at q
    exact wpAny_pure (wpAny_pure q)
  | none =>
    dsimp only
    have hnk : k ∉ es.toList.map kOf := fun z => by
      obtain ⟨e, he, q⟩ := (gd_mem (P := P) (w := w) g k).1 z
      have c := List.findIdx?_eq_none_iff.mp hfi e he
      rw [q] at c; cases c
    have hSk : S k = false := by
      cases q : S k with
      | false => rfl
      | true => exact absurd ((hm k).1 q) hnk
    have hgw : ∀ (b : Bool) {s₁ : Shared} {Q' : Unit → Shared → Prop}, Q' () s₁ → wpAny (model P w) A (match b with | true => rule "set.scan.the-table-gave-way" | false => pure ()) Q' E s₁ := fun b s₁ Q' q => by
      cases b
      · exact wpAny_pure q
      · exact wpAny_rule q
    have q1 := layNew_perm t es ((mixKind P w).hash k) u
    have q2 := layNew_fits t es ((mixKind P w).hash k) u
    have q3 := layNew_ris t es ((mixKind P w).hash k) u hr
    have q4 := layNew_led t es ((mixKind P w).hash k) u
    generalize layNew t es ((mixKind P w).hash k) u = Z at q1 q2 q3 q4 ⊢
    obtain ⟨es1, t1, wd, gv⟩ := Z
    dsimp only at q1 q2 q3 q4 ⊢
    rw [Array.toList_push] at q1
    have pc : es1.toList.Perm (((mixKind P w).hash k, u) :: es.toList) := q1.trans (List.perm_append_singleton _ _)
    have pk : (es1.toList.map kOf).Perm (k :: es.toList.map kOf) := by
      have := pc.map kOf
      rwa [List.map_cons, kOf_rel ru] at this
    have g1 : ∀ e ∈ es1.toList, GdK w e := fun e he => by
      rcases List.mem_cons.mp (pc.mem_iff.mp he) with z | z
      · rw [z]; exact ⟨k, ru, rfl⟩
      · exact g e z
    have nd1 : (es1.toList.map kOf).Nodup := pk.nodup_iff.mpr (List.nodup_cons.mpr ⟨hnk, nd⟩)
    have m1 : ∀ i, (S i || decide (i = k)) = true ↔ i ∈ es1.toList.map kOf := fun i => by
      rw [Bool.or_eq_true, decide_eq_true_eq, hm i, pk.mem_iff, List.mem_cons]; exact Or.comm
    have hsz : es1.size = n + 1 := by rw [← Array.length_toList, pc.length_eq, List.length_cons, Array.length_toList, hn]
    have hb1 : es1.size < scanBound := hsz ▸ room
    have hled : w.params.followText "set-order" = true ∨ t1.led = true := hl.imp id fun z => by rw [q4]; exact z
    have fin : ∀ h', Heap.SameBut a s.heap h' → SetM w h' a (fun j => S j || decide (j = k)) es1.size → Q true { s with heap := h' } := fun h' sb r => by
      have q := hQ h' sb
      rw [hSk] at q; rw [hsz] at r
      exact q r
    refine wpAny_bind (hgw _ ?_)
    have hg2 : ∀ (b : Bool) (s₁ : Shared) (Q' : Unit → Shared → Prop), Q' () s₁ → wpAny (model P w) A (match b with | true => rule "set.scan.the-table-gave-way" | false => pure ()) Q' E s₁ := fun b s₁ Q' q => hgw b q
    split
    · refine wpAny_bind ?_
      rw [hashByValue_scannable 8 hsc]
      refine wpAny_pure (setM_tail ?_ ho hex hd g1 nd1 m1 hb1 ?_ ?_ ?_ ?_)
      · intro b s₁ Q' q; cases b <;> first | exact wpAny_pure q | exact wpAny_rule q
      · first | (split <;> first | exact q2 | exact SetTable.fits_plain_off q2) | exact q2
      · first | (split <;> exact q3) | exact q3
      · first | (split <;> exact hled) | exact hled
      · intro h' sb r; dsimp only; exact wpAny_pure (fin h' sb r)
    · refine wpAny_bind (wpAny_pure ?_)
      simp only [↓reduceIte]
      refine setM_tail ?_ ho hex hd g1 nd1 m1 hb1 q2 q3 hled ?_
      · intro b s₁ Q' q; cases b <;> first | exact wpAny_pure q | exact wpAny_rule q
      · intro h' sb r; dsimp only; exact wpAny_pure (fin h' sb r)
theorem setM_loop {I : Addr} {fp wr : List Addr} {G : Array GenState → Array GenState → Prop} {n : Nat} {Pv : Nat → Value → Prop} {St : Nat → Shared → Prop} {R : Result → Shared → Prop}
    (W : WalksS P w A.in1 I fp wr G n Pv St) (D : Addr) (hSf : D ∉ fp) (ks : List Key) (hn : n = ks.length) (hb : ks.length + 1 < scanBound) (hval : ∀ i v, Pv i v → ∃ k, ks[i]? = some k ∧ RelV (kV k) v) :
    ∀ (k i : Nat) (s : Shared), n - i = k → i ≤ n → St i s → (∃ c, c ≤ i ∧ SetM w s.heap D (memK (ks.take i)) c) →
      (∀ s' c, Moved (D :: wr) G s s' → c ≤ n → SetM w s'.heap D (memK ks) c → R (.ok (.ret .none)) s') → codeAny (model P w) A (.builtin "set.update.loop" ⟨[.ref D, .ref I], []⟩) R s := by
  have hSw : D ∉ wr := fun h => hSf (W.sub _ h)
  have hsub : ∀ b ∈ wr, b ∈ D :: wr := fun b hb => List.mem_cons_of_mem _ hb
  intro k
  induction k with
  | zero =>
    intro i s hk' hi hst ⟨c, hc, hS⟩ hR
    obtain rfl : i = n := by omega
    refine codeAny_builtin F.entry_set_update_loop ?_
    rw [Around.under_plainId F.plain_set_update_loop _]
    show wpAny _ A.in1 (pyNext (.ref I) >>= _) _ _ s
    refine wpAny_bind (W.done s _ _ hst fun s' hm => ?_)
    show wpAny _ A.in1 (ret Value.none) _ _ s'
    rw [show ks.take i = ks from List.take_of_length_le (by omega)] at hS
    exact wpAny_pure (hR s' c (hm.mono hsub) hc (hS.at fun o e => hm.heap D o hSw e))
  | succ k ih =>
    intro i s hk' hi hst ⟨c, hc, hS⟩ hR
    have hlt : i < n := by omega
    refine codeAny_builtin F.entry_set_update_loop ?_
    rw [Around.under_plainId F.plain_set_update_loop _]
    show wpAny _ A.in1 (pyNext (.ref I) >>= _) _ _ s
    refine wpAny_bind (W.item i s _ _ hlt hst fun v s' hP hst' hm => ?_)
    obtain ⟨z, hz, rv⟩ := hval i v hP
    have hS' : SetM w s'.heap D (memK (ks.take i)) c := hS.at fun o e => hm.heap D o hSw e
    show wpAny _ A.in1 (holding [v] (setAdd D v) >>= _) _ _ s'
    refine wpAny_bind (wpAny_holding ?_)
    unfold setAdd
    refine wpAny_holding (wpAny_bind ((mixKind P w).pyHash (k := z) (kV_is rv) ?_))
    refine setM_add (s := { s' with toks := s'.toks + 1 }) rv hS' (by omega) fun h' hsb hS2 => ?_
    have hS3 : SetM w h' D (memK (ks.take (i + 1))) (if memK (ks.take i) z = true then c else c + 1) := hS2.congr fun j => by
      unfold memK
      rw [List.take_add_one, hz, List.any_append]
      simp [eq_comm]
    have hc3 : (if memK (ks.take i) z = true then c else c + 1) ≤ i + 1 := by split <;> omega
    refine wpAny_pure ⟨plainId_quiet F.plain_set_update_loop _, ih (i + 1) _ (by omega) hlt (W.frame _ s' _ _ hst' (Nat.le_succ _) fun b hb o e => (hsb.2 b (fun h : b = D => hSf (h ▸ hb))).trans e) ⟨_, hc3, hS3⟩ fun s'' c2 hm'' hc'' hS'' => ?_⟩
    exact hR s'' c2 (Moved.trans W.gtrans ((hm.mono hsub).then_heap (Nat.le_succ _) fun b o hb e => (hsb.2 b (fun h : b = D => hb (h ▸ List.mem_cons_self))).trans e) hm'') hc'' hS''
theorem setM_new {h : Heap} {ks : List Key} (ho : h.get? a = some { cls := .type "set", dict := none, data := .set #[] 0 (.fresh 0 0 (!w.params.followText "set-order")) }) : SetM w h a (memK (ks.take 0)) 0 := by
  refine ⟨_, #[], 0, _, ho, ⟨rfl, rfl, rfl⟩, rfl, (fun e he => by simp at he), (by simp), (fun k => by simp [memK]), (by decide), (by rfl), rfl, List.Pairwise.nil, ?_⟩
  show _ ∨ (!w.params.followText "set-order") = true
  cases w.params.followText "set-order" <;> simp
theorem setM_call {l : Addr} {items : Array Value} (ks : List Key) {Q : Value → Shared → Prop} (hh : A.handled = none) (hl : s.heap.IsList l items) (hit : Vals (ks.map kV) items.toList) (hb : ks.length + 1 < scanBound)
    (h : ∀ (h' : Heap) (tk c : Nat), SetM w h' s.heap.objs.size (memK ks) c → c ≤ ks.length → (∀ b o, s.heap.get? b = some o → h'.get? b = some o) → Q (.ref s.heap.objs.size) { s with heap := h', toks := tk }) :
    wpAny (model P w) A (call (.type "set") [.ref l]) Q E s := by
  have hisz : items.size = ks.length := by
    have q := hit.length
    rw [List.length_map, Array.length_toList] at q
    exact q.symm
  obtain ⟨c, tl, hmro⟩ := F.called_set.mro
  have hmade := F.called_set.made
  have hsub := F.called_set.sub
  refine wpAny_call (codeAny_of_tree ?_)
  show wpAny _ _ (callAny (.type "set") _) _ _ _
  refine wpAny_pure ⟨Code.quiet_builtin _ (by decide +kernel), codeAny_builtin F.entry_type_call ?_⟩
  rw [Around.under_plain (weight_type_call_type "set" [.ref l] []) rfl]
  have h1 := F.called_set.notType
  have h2 := F.called_set.canCreate
  have hct := F.typeCall_set_1 (.ref l)
  repeat (any_goals (first | assumption | wp_step))
  refine codeAny_mono (code_set_led1 (.ref l) (E := E) (Q₁ := fun obj s₁ => obj = .ref s.heap.objs.size ∧ s₁ = { s with heap := s.heap.push { cls := .type "set", dict := none, data := .set #[] 0 (.fresh 0 0 (!w.params.followText "set-order")) } }) ⟨rfl, rfl⟩) fun r s₁ hr => ?_
  cases r with
  | error e => exact hr
  | ok fl =>
    cases fl with
    | ret obj =>
      obtain ⟨rfl, rfl⟩ := hr
      have hNw : (s.heap.push { cls := .type "set", dict := none, data := .set #[] 0 (.fresh 0 0 (!w.params.followText "set-order")) }).get? s.heap.objs.size = some { cls := .type "set", dict := none, data := .set #[] 0 (.fresh 0 0 (!w.params.followText "set-order")) } := Heap.get?_push_size _ rfl
      have hTy : Shared.TypeIs { s with heap := s.heap.push { cls := .type "set", dict := none, data := .set #[] 0 (.fresh 0 0 (!w.params.followText "set-order")) } } (.ref s.heap.objs.size) "set" := ⟨_, hNw, rfl⟩
      have hli := F.called_set.init.lookup
      have hbi := F.called_set.init.bind (.ref s.heap.objs.size)
      repeat (any_goals (first | assumption | wp_step))
      refine codeAny_mono (codeAny_call_builtin (R := wants (fun r s₂ => r = .none ∧ ∃ h' tk c, s₂ = { s with heap := h', toks := tk } ∧ SetM w h' s.heap.objs.size (memK ks) c ∧ c ≤ ks.length ∧ (∀ b o, s.heap.get? b = some o → h'.get? b = some o)) E) F.called_set.init.plain F.entry_set_init (check_set_init_1 hTy ?_)) fun r₂ s₂ hr₂ => ?_
      · obtain ⟨⟨ocls, odict, odata, oslots⟩, hol, hcl, nl, hdl⟩ := hl
        simp only at hcl hdl
        subst hcl; subst hdl
        have hol' : (s.heap.push { cls := .type "set", dict := none, data := .set #[] 0 (.fresh 0 0 (!w.params.followText "set-order")) }).get? l = some { cls := .type "list", dict := odict, data := .seq items nl, slots := oslots } := Heap.get?_push_of_some _ hol
        have hsls := PySem.F.sub_list_set
        have hslf := PySem.F.sub_list_frozenset
        have hne : (Value.type "list" == Value.type "dict") = false := by decide
        have hl1 : (s.heap.push { cls := .type "set", dict := none, data := .set #[] 0 (.fresh 0 0 (!w.params.followText "set-order")) }).IsList l items := ⟨_, hol', rfl, nl, rfl⟩
        unfold Builtin.«set.__init__» noKeywords Builtin.Frozenset.updateFrom
        generalize hPI : pyIter = PI
        wp_walk
        subst hPI
        refine wpAny_pyIter_list hl1 ?_
        refine wpAny_bind (wpAny_runValue ?_)
        have hlS : l < s.heap.objs.size := Heap.lt_size hol
        have hh3 : A.in1.in1.in1.handled = none := by simp [hh]
        have hneI : l ≠ (s.heap.push { cls := .type "set", dict := none, data := .set #[] 0 (.fresh 0 0 (!w.params.followText "set-order")) }).objs.size := by rw [Heap.size_push]; exact Nat.ne_of_lt (Nat.lt_succ_of_lt hlS)
        have hSf : s.heap.objs.size ∉ [(s.heap.push { cls := .type "set", dict := none, data := .set #[] 0 (.fresh 0 0 (!w.params.followText "set-order")) }).objs.size, l] := by
          rw [Heap.size_push]; simp only [List.mem_cons, List.mem_singleton, List.not_mem_nil, or_false, not_or]
          exact ⟨Nat.ne_of_lt (Nat.lt_succ_self _), Nat.ne_of_gt hlS⟩
        have hval : ∀ (i : Nat) (v : Value), items[i]? = some v → ∃ k, ks[i]? = some k ∧ RelV (kV k) v := fun i v hv => by
          have hi : i < ks.length := by rw [← hisz]; exact (Array.getElem?_eq_some_iff.mp hv).1
          obtain ⟨u, hu, ru⟩ := hit.get (i := i) (x := kV ks[i]) (by simp [hi])
          refine ⟨ks[i], List.getElem?_eq_getElem hi, ?_⟩
          rw [Array.getElem?_toList, hv] at hu
          exact (Option.some.inj hu) ▸ ru
        refine setM_loop ((Walks.list hh3 _ l hneI items).toS) s.heap.objs.size hSf ks hisz hb hval (items.size - 0) 0 _ (by omega) (Nat.zero_le _) ⟨⟨_, Heap.get?_push_size _ rfl, rfl, rfl⟩, (hl1.push _)⟩ ?hS0 ?hR
        case hS0 => exact ⟨0, Nat.le_refl 0, setM_new (Heap.get?_push_of_some _ hNw)⟩
        case hR =>
          intro s' c' hm hc' hS'
          obtain ⟨h', g2, d', tk', os'⟩ := s'
          obtain rfl : g2 = s.gens := hm.gens
          obtain rfl : d' = s.drawn := hm.drawn
          obtain rfl : os' = s.os := hm.os
          show wpAny _ _ _ _ _ _
          refine wpAny_pure ?_
          show wpAny _ _ (ret Value.none) _ _ _
          refine wpAny_pure ⟨rfl, h', tk', c', rfl, hS', by omega, fun b o e => ?_⟩
          have hb0 : b < s.heap.objs.size := Heap.lt_size e
          exact hm.heap b o (fun z => by
            rw [Heap.size_push] at z
            rcases List.mem_cons.mp z with z | z
            · exact absurd z (Nat.ne_of_lt hb0)
            · exact absurd (List.mem_singleton.mp z) (Nat.ne_of_lt (Nat.lt_succ_of_lt hb0))) (Heap.get?_push_of_some _ (Heap.get?_push_of_some _ e))
      · cases r₂ with
        | error e => exact hr₂
        | ok fl₂ =>
          cases fl₂ with
          | ret r =>
            obtain ⟨rfl, h', tk, c', rfl, hS', hc', hk'⟩ := hr₂
            repeat (any_goals (first | assumption | wp_step))
            exact h _ _ _ hS' hc' hk'
          | _ => exact hr₂.elim
    | _ => exact hr.elim
theorem setM_sorted {k0 : Bool} {Q : Value → Shared → Prop} (R : SetM w s.heap a S n) (hh : A.handled = none) (hs : ∀ k, S k = true → k.isLeft = k0) (hz : n ≤ 1000) (hu : A.units + 65 < cLine)
    (hQ : ∀ s' p (out : List Value) (c : Nat) (bs : List Key), (∀ b o, s.heap.get? b = some o → s'.heap.get? b = some o) → s'.gens = s.gens → s'.os = s.os → s.heap.objs.size ≤ p →
      s'.heap.get? p = some (seqObj "list" out.toArray c) → Vals (bs.map kV) out → bs.Nodup → (∀ k, k ∈ bs ↔ S k = true) → bs.Pairwise (fun x y => PySem.W.dataLe false encK x y = true) → Q (.ref p) s') :
    wpAny (model P w) A (call (.builtin "sorted") [.ref a]) Q E s := by
  obtain ⟨o, es, ep, t, ho, hex, hd, g, nd, hm, hb, hf, hn, hr, hl⟩ := R
  refine Calls.call_function_entry kind_sorted plain_sorted entry_sorted (args_sorted1 _) ?_
  unfold Builtin.«sorted»
  refine wpAny_bind (m := checkCount "sorted" 1 1 _) (wpAny_pure ?_)
  refine wpAny_bind (collect_set (A := A.in1) hh ⟨o, ho, hex.1, hd⟩ hf hb hr hl fun s1 vs k1 hz1 g1 o1 pm => ?_)
  have hvl : vs.length = n := by rw [pm.length_eq, List.length_map, Array.length_toList]; exact hn
  let bs := vs.map fun v => kOf (0, v)
  have hvals : Vals (bs.map kV) vs := by
    have : ∀ l : List Value, (∀ v ∈ l, ∃ k : Key, RelV (kV k) v) → Vals ((l.map fun v => kOf (0, v)).map kV) l := by
      intro l
      induction l with
      | nil => intro _; exact .nil
      | cons v l ih =>
        intro hv
        obtain ⟨k, rk⟩ := hv v List.mem_cons_self
        refine .cons ?_ (ih fun u hu => hv u (List.mem_cons_of_mem _ hu))
        show RelV (kV (kOf (0, v))) v
        rw [kOf_rel rk]
        exact rk
    refine this vs fun v hv => ?_
    obtain ⟨e, he, q⟩ := List.mem_map.mp (pm.mem_iff.mp hv)
    obtain ⟨k, rk, _⟩ := g e he
    exact ⟨k, q ▸ rk⟩
  have pk : bs.Perm (es.toList.map kOf) := by
    have q := pm.map fun v => kOf (0, v)
    rw [List.map_map] at q
    exact q
  have hmem : ∀ k, k ∈ bs ↔ S k = true := fun k => by rw [pk.mem_iff, ← hm k]
  refine wpAny_bind (wpAny_newList ?_ (by rw [hvl, sizeLine_eq]; omega))
  have hoL : (s1.heap.push (seqObj "list" vs.toArray 0)).get? s1.heap.objs.size = some (seqObj "list" vs.toArray 0) := Heap.get?_push_size _ rfl
  have each : ∀ {ks : List Key} {us : List Value}, Vals (ks.map kV) us → PySem.W.EachIs (fun u (k : Key) => RelV (kV k) u) us ks := fun {ks} => by
    induction ks with
    | nil => intro us h; cases h; exact .nil
    | cons k ks ih => intro us h; cases h with | cons h1 h2 => exact .cons h1 (ih h2)
  have unea : ∀ {ks : List Key} {us : List Value}, PySem.W.EachIs (fun u (k : Key) => RelV (kV k) u) us ks → Vals (ks.map kV) us := fun {ks} => by
    induction ks with
    | nil => intro us h; cases h; exact .nil
    | cons k ks ih => intro us h; cases h with | cons h1 h2 => exact .cons h1 (ih h2)
  have hal : PySem.W.AllAlike (bs.map encK) := fun d hd d' hd' => by
    obtain ⟨x, hx, rfl⟩ := List.mem_map.mp hd
    obtain ⟨y, hy, rfl⟩ := List.mem_map.mp hd'
    have ex := hs x ((hmem x).mp hx)
    have ey := hs y ((hmem y).mp hy)
    cases x <;> cases y <;> first | rfl | (rw [← ex] at ey; cases ey)
  have hso : PySem.W.Sortable (bs.map encK) := .inr fun d hd => by
    obtain ⟨x, hx, rfl⟩ := List.mem_map.mp hd
    cases x <;> exact ⟨fun z => (nomatch z), fun _ z => (nomatch z)⟩
  have er : PySem.W.EachIs (fun v k => ∃ as, Reads (s1.heap.push (seqObj "list" vs.toArray 0)) v (encK k) as ∧ s1.heap.objs.size ∉ as) vs bs := by
    refine (each hvals).mono fun v k rk => ?_
    cases k with
    | inl i => obtain ⟨t, e⟩ := (show ∃ t, v = Value.int i t from rk); subst e; exact ⟨[], .int _ _, fun z => (nomatch z)⟩
    | inr x => obtain ⟨t, e⟩ := (show ∃ t, v = Value.str x t from rk); subst e; exact ⟨[], .str _ _, fun z => (nomatch z)⟩
  have hbl : bs.length = n := by rw [List.length_map, hvl]
  refine wpAny_bind (wpAny_holding (PySem.W.list_sort_data (R := fun u (k : Key) => RelV (kV k) u) (enc := encK) hoL (each hvals) er hal hso (by rw [hbl, sizeLine_eq]; omega) (fun b _ => ?_) fun out ho' eo => ?_))
  · have : (encK b).depth = 0 := by cases b <;> rfl
    rw [this]
    show A.units + 1 + 1 + 0 < cLine
    omega
  · obtain ⟨c, hc⟩ := sortedHeap_at (vs := vs) (out := out.toArray) hoL
    have pms : (bs.mergeSort (PySem.W.dataLe false encK)).Perm bs := List.mergeSort_perm _ _
    refine wpAny_pure ⟨_, rfl, hQ { s1 with heap := sortedHeap (s1.heap.push (seqObj "list" vs.toArray 0)) s1.heap.objs.size vs out.toArray } s1.heap.objs.size out c (bs.mergeSort (PySem.W.dataLe false encK)) (fun b u e => ?_) g1 o1 hz1 hc (unea eo) (pms.nodup_iff.mpr (pk.nodup_iff.mpr nd)) (fun k => by rw [pms.mem_iff]; exact hmem k) ?_⟩
    · have q := k1 b u e
      have hlt := Heap.lt_size q
      show (sortedHeap (s1.heap.push (seqObj "list" vs.toArray 0)) s1.heap.objs.size vs out.toArray).get? b = some u
      rw [sortedHeap_old (Nat.ne_of_lt hlt) (by rw [size_push']; exact Nat.lt_succ_of_lt hlt)]
      exact Heap.get?_push_of_some _ q
    · have tot := PySem.W.sortLe_total (PyProof.Rows.listOrd PyProof.Rows.itemOrd) false fun k : Key => PySem.W.keyToks (encK k)
      exact List.pairwise_mergeSort (le := PySem.W.dataLe false encK) (fun a b c h1 h2 => tot.trans a b c h1 h2) (fun a b => by rcases tot.total a b with z | z <;> (rw [Bool.or_eq_true]; first | exact .inl z | exact .inr z)) _
end
end Mf
set_option Elab.async false
set_option linter.all false
set_option maxRecDepth 100000
set_option maxHeartbeats 1000000
namespace Mf
open PySem L2 PySem.Spec PyProof.Rows HT
section
variable {prog : Program} {w : World} {A : Around} {E : Value → Shared → Prop} {s : Shared}
theorem applied_rev {sl : Addr} {vl vu vs : Value} {n : Nat} {Q : Int × Int × Nat → Shared → Prop} (hs : s.heap.IsSliceOf sl vl vu vs) (pl : IsPart vl none) (pu : IsPart vu none) (ps : IsPart vs (some (-1)))
    (h : Q ((n : Int) - 1, -1, n) s) : wpAny (model prog w) A (Builtin.Slice.sliceApplied (.ref sl) (pure (n : Int))) Q E s := by
  obtain ⟨os, hos, hcs, hds⟩ := id hs
  unfold Builtin.Slice.sliceApplied Builtin.Slice.sliceFields
  refine wpAny_bind (wpAny_bind (wpAny_field hos hds (x := vl) rfl (wpAny_bind (wpAny_field hos hds (x := vu) rfl (wpAny_bind (wpAny_field hos hds (x := vs) rfl (wpAny_pure ?_)))))))
  refine wpAny_bind (slicePart_ ps ?_)
  show wpAny _ _ (if ((-1 : Int) == 0) = true then _ else _) _ _ s
  rw [if_neg (by decide)]
  refine wpAny_bind (slicePart_ pl (wpAny_bind (slicePart_ pu (wpAny_bind (wpAny_pure ?_)))))
  have ea : Builtin.Slice.sliceAdjust none none (-1) (n : Int) = ((n : Int) - 1, -1) := by
    simp [Builtin.Slice.sliceAdjust]
  have ep : Builtin.Slice.slicePlaces ((n : Int) - 1) (-1) (-1) = n := by
    unfold Builtin.Slice.slicePlaces
    have h1 : ¬ ((-1 : Int) > 0) := by decide
    simp only [h1, if_false]
    split
    · simp
      try omega
    · omega
  show wpAny _ _ (match Builtin.Slice.sliceAdjust none none (-1) (n : Int) with | (lo, hi) => pure (lo, (-1 : Int), Builtin.Slice.slicePlaces lo hi (-1))) _ _ s
  rw [ea]
  show wpAny _ _ (pure ((n : Int) - 1, (-1 : Int), Builtin.Slice.slicePlaces ((n : Int) - 1) (-1) (-1))) _ _ s
  rw [ep]
  exact wpAny_pure h
theorem fm_congr {α β : Type} {f g : α → Option β} : ∀ {l : List α}, (∀ a ∈ l, f a = g a) → l.filterMap f = l.filterMap g
  | [], _ => rfl
  | a :: l, h => by
    rw [List.filterMap_cons, List.filterMap_cons, h a List.mem_cons_self, fm_congr fun b hb => h b (List.mem_cons_of_mem _ hb)]
theorem pick_rev (xs : Array Value) : ((List.range xs.size).filterMap fun (m : Nat) => xs[(((xs.size : Int) - 1) + (m : Int) * -1).toNat]?).toArray = xs.toList.reverse.toArray := by
  have e : (List.range xs.size).filterMap (fun (m : Nat) => xs[(((xs.size : Int) - 1) + (m : Int) * -1).toNat]?) = ((List.range xs.size).map fun k => xs.size - 1 - k).filterMap (xs[·]?) := by
    rw [List.filterMap_map]
    refine fm_congr fun m hm => ?_
    have := List.mem_range.mp hm
    show _ = xs[xs.size - 1 - m]?
    congr 1
    omega
  rw [e, PySem.W.krv_range, List.filterMap_reverse, PySem.W.krv_all]
theorem getItem_tuple_rev {t sl : Addr} {items : Array Value} {vl vu vs : Value} {Q : Value → Shared → Prop} (ht : IsTup s.heap t items) (hs : s.heap.IsSliceOf sl vl vu vs) (pl : IsPart vl none) (pu : IsPart vu none) (ps : IsPart vs (some (-1)))
    (h : Q (.ref s.heap.objs.size) { s with heap := s.heap.push { cls := .type "tuple", data := .seq items.toList.reverse.toArray } }) (hsz : items.size ≤ sizeLine) : wpAny (model prog w) A (getItem (.ref t) (.ref sl)) Q E s := by
  have htake : sizeOk (.seq items.toList.reverse.toArray) := by
    show items.toList.reverse.toArray.size ≤ sizeLine
    rw [List.size_toArray, List.length_reverse, Array.length_toList]
    exact hsz
  obtain ⟨os, hos, hcs, hds⟩ := id hs
  have hTs : s.TypeIs (.ref sl) "slice" := ⟨os, hos, hcs⟩
  unfold getItem
  try with_reducible refine wpAny_holding ?_
  first | refine wpAny_bind (wpAny_pure ?_) | skip
  refine wpAny_bind (wpAny_sequenceKey ht.typeIs (by decide) ?_)
  refine wpAny_bind (wpAny_callSpecial?_slot (name := Str.ofString "__getitem__") ht.typeIs PyProof.Rows.slot_tuple_getitem (wpAny_call_entry PyProof.Rows.slot_tuple_getitem ht.typeIs entry_tuple_getitem ?_ (args_tuple_getitem _ _)))
  show wpAny _ _ (Builtin.Tuple.tupleItemsOf (.ref t) >>= _) _ _ s
  refine wpAny_bind (tupleItemsOf_ ht (wpAny_bind (wpAny_typeOf hTs ?_)))
  rw [if_pos (by decide)]
  refine wpAny_bind (applied_rev hs pl pu ps ?_)
  have hno : ¬ ((((items.size : Int) - 1) == 0 && (-1 : Int) == 1 && items.size == items.size) = true) := by
    intro q
    rw [Bool.and_eq_true, Bool.and_eq_true] at q
    exact absurd (eq_of_beq q.1.2) (by decide)
  show wpAny _ _ (if (((items.size : Int) - 1) == 0 && (-1 : Int) == 1 && items.size == items.size) = true then _ else _) _ _ s
  rw [if_neg hno, pick_rev]
  first
    | exact wpAny_bind (m := Builtin.Tuple.tupleExact _) (wpAny_newObj_type (wpAny_pure ⟨_, rfl, wpAny_pure h⟩) htake)
    | exact wpAny_bind (m := Builtin.Tuple.tupleExact _) (wpAny_newObj_type (wpAny_bind (wpAny_pure (wpAny_pure ⟨_, rfl, wpAny_pure h⟩))) htake)
    | exact wpAny_bind (wpAny_bind (m := Builtin.Tuple.tupleExact _) (wpAny_newObj_type (wpAny_pure (wpAny_pure ⟨_, rfl, wpAny_pure h⟩)) htake))
    | exact wpAny_bind (wpAny_bind (m := Builtin.Tuple.tupleExact _) (wpAny_newObj_type (wpAny_pure ⟨_, rfl, wpAny_pure h⟩) htake))
end
section
variable {X : Cx}
def tRevT (K : PySem.W.Frag) (te : TE) : TE := fun σ H Q => te σ H fun x H1 => ∃ a xs, x = .ref a ∧ SqT K H1 a xs ∧ NewT H1 Q xs.reverse
theorem pe_revT {e : Expr} {te : TE} {k : Nat} {p1 p2 p3 pos : Pos} (he : PE X e te) : PE X (.Subscript e (.Slice none none (some (.UnaryOp .USub (.Constant (.int 1) k p1) p2)) p3) pos) (tRevT X.K te) := by
  refine ⟨fun pins s σ H Q I h => Subscript_ (thn (he.run pins s σ H _ I h) fun v s1 ⟨x, H1, I1, r1, q1⟩ => ?_)⟩
  obtain ⟨a, xs, ex, hx, q⟩ := q1
  subst ex
  cases r1
  have hst : PO X (some (.UnaryOp .USub (.Constant (.int 1) k p1) p2)) (tPart (tUn (rU fun i => .int (-i)) (tC (.int 1)))) := po_some (pe_un un_neg pe_int)
  refine wpAny_Slice (thn (po_none.run pins s1 σ H1 (fun o H2 => o = none ∧ H2 = H1) I1 ⟨rfl, rfl⟩) fun vl s2 ⟨l, H2, I2, pl, el, e2⟩ => ?_)
  subst el e2
  refine thn (po_none.run pins s2 σ H2 (fun o H3 => o = none ∧ H3 = H2) I2 ⟨rfl, rfl⟩) fun vu s3 ⟨u, H3, I3, pu, eu, e3⟩ => ?_
  subst eu e3
  refine thn (hst.run pins s3 σ H3 (fun o H4 => o = some (-1) ∧ H4 = H3) I3 ⟨1, rfl, -1, rfl, rfl, rfl⟩) fun vs s4 ⟨o, H4, I4, ps, eo, e4⟩ => ?_
  subst eo e4
  have I5 : Inv X pins σ H4 { s4 with heap := s4.heap.push { cls := .type "slice", data := .fields #[vl, vu, vs] } } := I4.kept (t' := s4.toks) fun b ob q => Heap.get?_push_of_some _ q
  obtain ⟨its, r, ht, hz⟩ := I5.tuple hx
  have hlen := r.length
  show wpAny (model X.prog X.w) X.A (subscriptTail e (.Slice none none (some (.UnaryOp .USub (.Constant (.int 1) k p1) p2)) p3) (.ref a) (.ref s4.heap.objs.size)) (EP X pins σ Q) X.xe { s4 with heap := s4.heap.push { cls := .type "slice", data := .fields #[vl, vu, vs] } }
  refine tail_any (ops := [.ref a, .ref s4.heap.objs.size]) ht.typeIs (PyProof.Rows.slot_tuple_getitem.lookup) ?_ (by with_unfolding_all rfl)
  refine getItem_tuple_rev ht (Heap.IsSliceOf.new _ vl vu vs) pl pu ps ?_ (by rw [List.size_toArray]; omega)
  have := laidT (its := its.reverse) I5 r.reverse (by rw [List.length_reverse]; exact hz) q
  simpa using this
end
end Mf
set_option Elab.async false
set_option linter.all false
set_option maxRecDepth 100000
set_option maxHeartbeats 1000000
namespace Mf
open PySem L2
theorem keys_dK : ∀ {ds : List D} {ks : List Key}, keysD ds = some ks → ds = ks.map dK
  | [], ks, h => by cases h; rfl
  | d :: ds, ks, h => by
    unfold keysD at h
    split at h
    · rename_i k ks' h1 h2
      cases h
      rw [List.map_cons, ← keys_dK h2]
      congr 1
      cases d <;> cases h1 <;> rfl
    · cases h
theorem reps_keys {K : PySem.W.Frag} {F : Hp} : ∀ {ks : List Key} {vs : List V}, Reps K F vs (ks.map dK) → vs = ks.map kV
  | [], _, .nil => rfl
  | k :: ks, _, .cons h r => by
    rw [List.map_cons, ← reps_keys r]
    congr 1
    cases k <;> cases h <;> rfl
theorem rep_keys {K : PySem.W.Frag} {F : Hp} : ∀ ks : List Key, Reps K F (ks.map kV) (ks.map dK)
  | [] => .nil
  | k :: ks => .cons (by cases k <;> constructor) (rep_keys ks)
theorem mem_ded {k : Key} : ∀ {ks : List Key}, k ∈ dedK ks ↔ k ∈ ks
  | [] => Iff.rfl
  | x :: ks => by
    unfold dedK
    split
    · rename_i h
      rw [mem_ded, List.mem_cons]
      refine ⟨.inr, fun z => z.elim (fun e => ?_) id⟩
      obtain ⟨y, hy, e'⟩ := List.any_eq_true.mp h
      have := of_decide_eq_true e'
      subst this e
      exact hy
    · rw [List.mem_cons, mem_ded, List.mem_cons]
theorem nd_ded : ∀ ks : List Key, (dedK ks).Nodup
  | [] => .nil
  | x :: ks => by
    unfold dedK
    split
    · exact nd_ded ks
    · rename_i h
      refine List.nodup_cons.mpr ⟨fun z => h ?_, nd_ded ks⟩
      exact List.any_eq_true.mpr ⟨x, mem_ded.mp z, decide_eq_true rfl⟩
theorem py_dK (k : Key) : (dK k).py = encK k := by cases k <;> rfl
theorem leK_anti {a b : Key} (h : a.isLeft = b.isLeft) (h1 : PySem.W.dataLe false encK a b = true) (h2 : PySem.W.dataLe false encK b a = true) : a = b := by
  cases a with
  | inl i => cases b with
    | inl j =>
      have e := fun x y => congrFun (congrFun (PySem.W.dataLe_int (fun k : Int => k)) x) y
      have q1 : PySem.W.dataLe false (fun k : Int => PyData.int k) i j = true := h1
      have q2 : PySem.W.dataLe false (fun k : Int => PyData.int k) j i = true := h2
      rw [e] at q1 q2
      have := of_decide_eq_true q1
      have := of_decide_eq_true q2
      rw [show i = j by omega]
    | inr y => cases h
  | inr x => cases b with
    | inl j => cases h
    | inr y =>
      have e := fun x y => congrFun (congrFun (PySem.W.dataLe_str (fun k : Str => k)) x) y
      have q1 : PySem.W.dataLe false (fun k : Str => PyData.str k) x y = true := h1
      have q2 : PySem.W.dataLe false (fun k : Str => PyData.str k) y x = true := h2
      rw [e] at q1 q2
      have a1 := of_decide_eq_true q1
      have a2 := of_decide_eq_true q2
      have : x.cps.toList = y.cps.toList := List.le_antisymm a1 a2
      have : x.cps = y.cps := by rw [← Array.toArray_toList (xs := x.cps), this, Array.toArray_toList]
      cases x; cases y
      cases this
      rfl
theorem sset_one {ks bs : List Key} {b : Bool} (hb : ∀ k ∈ ks, k.isLeft = b) (nd : bs.Nodup) (hm : ∀ k, k ∈ bs ↔ k ∈ ks) (hs : bs.Pairwise (fun x y => PySem.W.dataLe false encK x y = true)) : bs.map dK = sortD ((dedK ks).map dK) := by
  rw [sortD_eq]
  have e0 : leD = fun x y => PySem.W.dataLe false D.py x y := rfl
  have pm : (bs.map dK).Perm (((dedK ks).map dK).mergeSort leD) := by
    refine ((List.perm_ext_iff_of_nodup nd (nd_ded ks)).mpr fun k => ?_).map dK |>.trans (List.mergeSort_perm _ _).symm
    rw [hm, mem_ded]
  have leq : ∀ x y : Key, leD (dK x) (dK y) = PySem.W.dataLe false encK x y := fun x y => by
    show PySem.W.dataLe false D.py (dK x) (dK y) = _
    show (!PySem.W.dataLt (dK y).py (dK x).py) = !PySem.W.dataLt (encK y) (encK x)
    rw [py_dK, py_dK]
  refine List.Perm.eq_of_pairwise (le := fun x y => leD x y = true) (fun a c ha hc h1 h2 => ?_) ?_ ?_ pm
  · obtain ⟨x, hx, rfl⟩ := List.mem_map.mp ha
    have hc' := (List.mergeSort_perm _ _).mem_iff.mp hc
    obtain ⟨y, hy, rfl⟩ := List.mem_map.mp hc'
    rw [leq] at h1 h2
    rw [leK_anti (by rw [hb x ((hm x).mp hx), hb y (mem_ded.mp hy)]) h1 h2]
  · refine List.pairwise_map.mpr (hs.imp fun {x y} h => ?_)
    rw [leq]; exact h
  · exact List.pairwise_mergeSort (le := leD) (fun a b c h1 h2 => leD_total.trans a b c h1 h2) (fun a b => by
      rw [Bool.or_eq_true]; exact leD_total.total a b) _
def tSset (K : PySem.W.Frag) (ta : TE) : TE := fun σ H Q => ta σ H fun x H1 => ∃ (l : Addr) (ks : List Key) (b : Bool), x = .ref l ∧ SqL K H1 l (ks.map kV) ∧ (∀ k ∈ ks, k.isLeft = b) ∧ ks.length ≤ 1000 ∧
  ∀ (p : Addr) (bs : List Key), H1 p = none → bs.Nodup → (∀ k, k ∈ bs ↔ k ∈ ks) → bs.Pairwise (fun x y => PySem.W.dataLe false encK x y = true) → Q (.ref p) (upd H1 p (.lst (bs.map kV)))
section
variable {X : Cx}
theorem pe_sset {a : Expr} {ta : TE} {p p2 q pos : Pos} (hc : X.calm = true) (hu : X.A.units + 65 < cLine) (hg : Gl X "sorted") (hm : X.mg "sorted" = none) (hg2 : Gl X "set") (hm2 : X.mg "set" = none) (ha : PE X a ta)
    (na : starEach [a] X.env = (false, eval a X.env) :: starEach [] X.env) : PE X (.Call (.Name "sorted" p) [.Call (.Name "set" p2) [a] [] q] [] pos) (tSset X.K ta) := by
  refine ⟨fun pins s σ H Q I h => PyProof.Rows.Call_ (ld_blt I hg hm PyProof.Rows.boot_sorted ?_)⟩
  refine PyProof.Rows.callWith_builtin1 (PyProof.Rows.args_cons ?_ rfl) rfl rfl
  refine PyProof.Rows.Call_ (ld_blt I hg2 hm2 PyProof.Rows.boot_set (PyProof.Rows.callWith_type1 (PyProof.Rows.args_cons (thn (ha.run pins s σ H _ I h) fun v s1 ⟨x, H1, I1, r1, q1⟩ => PyProof.Rows.args_nil ?_) na) na rfl))
  obtain ⟨l, ks, b, rfl, hq, hb, hl, q1⟩ := q1
  cases r1
  obtain ⟨its, r, pl, hz⟩ := I1.list hq
  refine setM_call ks (I1.ok.hd hc) pl.isList (by simpa using r) (by unfold scanBound; omega) fun h' tk c hS hcl hk => PyProof.Rows.args_nil ?_
  have I2 : Inv X pins σ H1 { s1 with heap := h', toks := tk } := I1.kept fun b o e => hk b o e
  have hd2 := I1.ok.hd hc
  have hS : SetM X.w ({ s1 with heap := h', toks := tk } : Shared).heap s1.heap.objs.size (memK ks) c := hS
  generalize ({ s1 with heap := h', toks := tk } : Shared) = s2 at I2 hS ⊢
  refine setM_sorted hS hd2 (fun k hk => hb k (memK_iff.mp hk)) (by omega) hu fun s' p out c bs k1 g1 o1 hp hgt vals nd mem srt => ?_
  have hn : H1 p = none := I2.hok.fresh hp
  have hlen : (bs.map kV).length ≤ sizeLine := by
    have h2 : bs.length ≤ ks.length := by
      have sub : bs ⊆ ks := fun k hk => memK_iff.mp ((mem k).mp hk)
      exact List.Nodup.length_le_of_subset nd sub
    have e : sizeLine = 16777216 := by decide
    rw [List.length_map]
    omega
  have J : Inv X pins σ (upd H1 p (.lst (bs.map kV))) { s2 with heap := s'.heap, gens := s'.gens, drawn := s'.drawn, toks := s'.toks } :=
    I2.call (ch := []) (Un.laid k1 hp hn) (I2.hok.laid k1 hp ⟨hlen, out, c, vals, hgt⟩) (by rw [g1]; exact I2.bare) (fun _ z => nomatch z)
  have e : s' = { s2 with heap := s'.heap, gens := s'.gens, drawn := s'.drawn, toks := s'.toks } := by
    cases s'; cases s2; cases o1; rfl
  rw [e]
  exact ⟨.ref p, _, J, rfl, q1 p bs hn nd (fun k => by rw [mem k, memK_iff]) srt⟩
end
section
variable {X : Cx} {Y : Sys} {W : WX} {n : Nat} {N : List Str} {sc : Scope} {a : CE Y.S} {a' : Expr} {p p2 q pos : Pos}
theorem se_sset (C : Cxt X W n N sc) (hg : glB sc "sorted" = true) (hg2 : glB sc "set" = true) (hs : notStar a' = true) (ha : PE X a' (tE X.K X.mg W a)) : PE X (.Call (.Name "sorted" p) [.Call (.Name "set" p2) [a'] [] q] [] pos) (tE X.K X.mg W (.sset a)) := by
  refine (pe_sset C.calm (hr65 C.room) (C.gl hg) (C.blt _ (by decide +kernel)) (C.gl hg2) (C.blt _ (by decide +kernel)) ha (star_cons hs _ _)).weak fun σ H Q h => ?_
  obtain ⟨c, H0, ρ, rfl, ok, rel, p⟩ := h
  have p : Post X.mg W σ c (JE X.K c) Q ((ev a ρ c.s).bind fun x s => liftO s (ssetD x.2)) := p
  refine tR.bind ok rel p fun x c1 xa ea t1 ok1 rel1 j1 p1 => ?_
  obtain ⟨k, d, e, q⟩ := (p1.shiftE t1 ok1).lift
  obtain ⟨k1, a1⟩ := xa
  unfold ssetD at e
  split at e
  · rename_i ds heq
    have heq : a1 = .lst ds := heq
    subst heq
    split at e
    · rename_i ks hk
      split at e
      · rename_i hc
        cases e
        simp only [Bool.and_eq_true, Bool.or_eq_true, decide_eq_true_eq, List.all_eq_true, beq_iff_eq] at hc
        have hb : ∃ b, ∀ k ∈ ks, k.isLeft = b := hc.2.elim (fun z => ⟨true, z⟩) (fun z => ⟨false, z⟩)
        obtain ⟨b, hb⟩ := hb
        have hx : Is X.K c.H c1 k1 x (.lst ds) := j1
        obtain ⟨pp, vs, rfl, h1, r⟩ := hx.lst ok1
        rw [keys_dK hk] at r
        have ev := reps_keys r
        subst ev
        refine ⟨pp, ks, b, rfl, .inl (.inl h1), hb, hc.1, fun p' bs hp nd hm hs => ?_⟩
        have e2 := sset_one hb nd hm hs
        rw [← e2] at q
        exact q.lst ok1 (rep_keys bs) p' hp
      · cases e
    · cases e
  · cases e
theorem se_rev {kk : Nat} {p1 p3 : Pos} (ha : PE X a' (tE X.K X.mg W a)) : PE X (.Subscript a' (.Slice none none (some (.UnaryOp .USub (.Constant (.int 1) kk p1) p2)) p3) pos) (tE X.K X.mg W (.rev a)) := by
  refine (pe_revT ha).weak fun σ H Q h => ?_
  obtain ⟨c, H0, ρ, rfl, ok, rel, p⟩ := h
  have p : Post X.mg W σ c (JE X.K c) Q ((ev a ρ c.s).bind fun x s => kd s (revD x.2)) := p
  refine tR.bind ok rel p fun x c1 xa ea t1 ok1 rel1 j1 p1 => ?_
  obtain ⟨d, e, q⟩ := (p1.shiftE t1 ok1).kd
  obtain ⟨k1, a1⟩ := xa
  unfold revD at e
  split at e
  · rename_i ds heq
    have heq : a1 = .tup ds := heq
    subst heq
    cases e
    have hx : Is X.K c.H c1 k1 x (.tup ds) := j1
    obtain ⟨pp, vs, rfl, h1, _, r⟩ := hx.tup ok1
    exact ⟨pp, vs, rfl, h1, q.tup ok1 r.rev⟩
  · cases e
theorem rg_reps {K : PySem.W.Frag} {F : Hp} (n : Nat) : Reps K F (rgV 0 (n : Int)) (rngD n) := by
  unfold rgV rngD
  rw [Int.sub_zero, Int.toNat_natCast]
  have : ∀ l : List Nat, Reps K F (l.map fun i => V.int (0 + (i : Nat))) (l.map fun (i : Nat) => D.int (i : Int)) := fun l => by
    induction l with
    | nil => exact .nil
    | cons a l ih =>
      rw [List.map_cons, List.map_cons, Int.zero_add]
      exact .cons (.int _) ih
  exact this _
theorem se_lrng (C : Cxt X W n N sc) (hg : glB sc "list" = true) (hg2 : glB sc "range" = true) (hs : notStar a' = true) (ha : PE X a' (tE X.K X.mg W a)) : PE X (.Call (.Name "list" p) [.Call (.Name "range" p2) [a'] [] q] [] pos) (tE X.K X.mg W (.lrng a)) := by
  refine (pe_listRg C.calm (C.gl hg) (C.blt _ (by decide +kernel)) (prg_1 (C.gl hg2) (C.blt _ (by decide +kernel)) ha (star_cons hs _ _))).weak fun σ H Q h => ?_
  obtain ⟨c, H0, ρ, rfl, ok, rel, p⟩ := h
  have p : Post X.mg W σ c (JE X.K c) Q ((ev a ρ c.s).bind fun x s => liftO s (lrngD x.2)) := p
  refine tR.bind ok rel p fun x c1 xa ea t1 ok1 rel1 j1 p1 => ?_
  obtain ⟨k, d, e, q⟩ := (p1.shiftE t1 ok1).lift
  obtain ⟨k1, a1⟩ := xa
  unfold lrngD at e
  split at e
  · rename_i i heq
    have heq : a1 = .int i := heq
    subst heq
    split at e
    · rename_i hc
      cases e
      simp only [Bool.and_eq_true, decide_eq_true_eq] at hc
      have hx : Is X.K c.H c1 k1 x (.int i) := j1
      have hv : x = .int i := hx.int
      obtain ⟨m, rfl⟩ := Int.eq_ofNat_of_zero_le hc.1
      refine ⟨_, hv, RgOk.of_le (by decide) (by omega) (by decide) (by omega), fun p' hp => ?_⟩
      rw [Int.toNat_natCast] at q
      exact q.lst ok1 (rg_reps m) p' hp
    · cases e
  · cases e
end
end Mf
set_option Elab.async false
set_option linter.all false
set_option maxRecDepth 100000
set_option maxHeartbeats 1000000
namespace Mf
open PySem L2 PySem.Spec PyProof.Rows
def Itn (x : Str) : It :=
  ⟨fun i _ => ∃ c, x.cps[i]? = some c, fun i H v H' => ∃ T c, v = .ref T ∧ H T = none ∧ H' = upd H T (.tup [.int (i : Nat), .str ⟨#[c]⟩]) ∧ x.cps[i]? = some c, fun i _ => x.cps.size ≤ i⟩
theorem turn_en {P : Program} {w : World} {K : PySem.W.Frag} {elts : List Expr} {kk : Nat} {tpos : Pos} (x : Str) (t : Tok) (e it : Addr) :
    Turn P w K (.Tuple elts kk tpos) (Itn x) [e, it] e (fun i h => (∃ old, IsEnum h e it ((i : Nat) : Int) old) ∧ h.IsStrIter it (strIterType x) x t i ∧ e ≠ it ∧ i ≤ x.cps.size) where
  mem := by simp
  obj := fun i h st b hb => by
    obtain ⟨⟨old, he⟩, ⟨o, ho, hc, hd⟩, _⟩ := st
    have e' : b = e ∨ b = it := by simpa using hb
    rcases e' with z | z
    · rw [z]; exact ⟨_, he, fun v q => nomatch q⟩
    · rw [z]; exact ⟨o, ho, fun v q => by rw [hd] at q; cases q⟩
  keep := fun i h h' st k => by
    obtain ⟨⟨old, he⟩, ⟨o, ho, r⟩, hne⟩ := st
    exact ⟨⟨old, k e (by simp) _ he⟩, ⟨o, k it (by simp) _ ho, r⟩, hne⟩
  item := by
    intro X hP hw hK hc i pins s σ H E I hf st hg
    subst hP hw hK
    obtain ⟨⟨old, he⟩, hit, hne, hi⟩ := st
    obtain ⟨c, hcx⟩ := hg
    have hlt : i < x.cps.size := by
      rcases Nat.lt_or_ge i x.cps.size with z | z
      · exact z
      · rw [Array.getElem?_eq_none z] at hcx; cases hcx
    have hel : e < s.heap.objs.size := Heap.lt_size he
    have hil : it < s.heap.objs.size := by obtain ⟨_, q, _⟩ := hit; exact Heap.lt_size q
    have D : Draws X.prog X.w X.A.in1 it [it] x.cps.size (fun i v => ∃ c u, x.cps[i]? = some c ∧ v = .str ⟨#[c]⟩ u) (fun i h => h.IsStrIter it (strIterType x) x t i) := Draws.text (A := X.A.in1) (I.ok.hd hc) it x t
    refine wpAny_pyNext_enum_itemD D he hit hlt hne (by simp [hne]) fun u h' tk hPu ho hit' hT hsz hk => ?_
    obtain ⟨c', tu, hc', rfl⟩ := hPu
    rw [hcx] at hc'
    cases hc'
    refine ⟨_, rfl, wpAny_letOwnedTupleGo_enum (s := { s with heap := h', toks := tk + 1 }) ho fun h'' he' sb => ?_⟩
    have hT2 : h''.get? s.heap.objs.size = some { cls := .type "tuple", data := .seq #[.int i tk, .str ⟨#[c]⟩ tu] } := (sb.2 _ (Nat.ne_of_gt hel)).trans hT
    have new : ObjOk X.prog X.w (upd H s.heap.objs.size (.tup [.int (i : Nat), .str ⟨#[c]⟩])) h'' s.heap.objs.size (.tup [.int (i : Nat), .str ⟨#[c]⟩]) :=
      ⟨by show 2 ≤ sizeLine; decide, [.int i tk, .str ⟨#[c]⟩ tu], .cons ⟨_, rfl⟩ (.cons ⟨_, rfl⟩ .nil), ⟨_, hT2, rfl, _, rfl⟩⟩
    have I1 : Inv X pins σ (upd H s.heap.objs.size (.tup [.int (i : Nat), .str ⟨#[c]⟩])) { s with heap := h'', toks := tk + 1 } :=
      I.turnedNew (ch := [e, it]) (fun b ob hb q => (sb.2 b (fun z => hb (by simp [z]))).trans (hk b ob (fun z => hb (by simp [z])) (fun z => hb (by simp [z])) q)) hf (Nat.le_refl _) new
    refine ⟨.ref s.heap.objs.size, _, I1, rfl, ⟨_, c, rfl, I.hok.fresh (Nat.le_refl _), rfl, hcx⟩, ⟨⟨.str ⟨#[c]⟩ tu, ?_⟩, ?_, hne, hlt⟩, fun b hb => ?_⟩
    · have e1 : ((i + 1 : Nat) : Int) = (i : Int) + 1 := by omega
      rw [e1]; exact he'
    · obtain ⟨o, ho2, r⟩ := hit'
      exact ⟨o, (sb.2 it (Ne.symm hne)).trans ho2, r⟩
    · have hb' : b < s.heap.objs.size := by
        have e' : b = e ∨ b = it := by simpa using hb
        rcases e' with z | z
        · rw [z]; exact hel
        · rw [z]; exact hil
      rw [upd_ne (Nat.ne_of_lt hb')]
      exact (hf b hb).1
  done := by
    intro X hP hw hK hc i pins s σ H E I hf st hg
    subst hP hw hK
    obtain ⟨⟨old, he⟩, hit, hne, hi⟩ := st
    obtain ⟨f0, f1, f2, f3, f4, f5⟩ := hf it (by simp)
    have hg : x.cps.size ≤ i := hg
    have hi' : i = x.cps.size := Nat.le_antisymm hi hg
    subst hi'
    have D := Draws.text (prog := X.prog) (w := X.w) (A := X.A.in1) (I.ok.hd hc) it x t
    exact wpAny_pyNext_enum_endD D he hit fun h' eb => ⟨rfl, I.turned (t' := s.toks) (fun b o hb q => eb b o hb q) f0 f1 f3 f4 f5⟩
  self := fun A i s Q E st h => let ⟨⟨_, he⟩, _⟩ := st; wpAny_pyIter_enum he h
def iEn (te : TA) : TI := fun σ H R => te σ H fun vs H1 => ∃ x, vs = [.str x] ∧ R (Itn x) H1
theorem pi_en {X : Cx} {e : Expr} {ta : TA} {p pos tpos : Pos} {elts : List Expr} {kk : Nat} (hg : Gl X "enumerate") (hm : X.mg "enumerate" = none) (ha : PA X [e] ta) (hs : starEach [e] X.env = [(false, eval e X.env)]) :
    PI X (.Tuple elts kk tpos) (.Call (.Name "enumerate" p) [e] [] pos) (iEn ta) := by
  refine ⟨fun pins s σ H R I h => ?_⟩
  refine Call_ (ld_blt I hg hm boot_enumerate (PyProof.Rows.callWith_type1 (thn (ha.run pos pins s σ H _ I h) fun us s1 ⟨vs, H1, I1, r1, q1⟩ => ?_) hs rfl))
  obtain ⟨x, ex, q⟩ := q1
  subst ex
  cases r1 with
  | cons r rr =>
    cases rr
    obtain ⟨t, rfl⟩ := r
    refine call_enumerate_str fun h' he hit hsz hk => wpAny_pyIter_enum he ?_
    have I2 : Inv X pins σ H1 { s1 with heap := h' } := I1.kept (t' := s1.toks) hk
    refine ⟨s1.heap.objs.size + 1, [s1.heap.objs.size + 1, s1.heap.objs.size], _, _, H1, rfl, I2, turn_en x t (s1.heap.objs.size + 1) s1.heap.objs.size, ⟨⟨.none, he⟩, hit, Nat.succ_ne_self _, Nat.zero_le _⟩, fun b hb => ?_, q⟩
    have e' : b = s1.heap.objs.size + 1 ∨ b = s1.heap.objs.size := by simpa using hb
    have hle : s1.heap.objs.size ≤ b := by
      rcases e' with z | z
      · rw [z]; exact Nat.le_add_right _ _
      · rw [z]; exact Nat.le_refl _
    exact I1.fpOk hle (I1.hok.fresh hle)
theorem enL_get : ∀ (l : List Nat) (k i : Nat), (enL k l)[i]? = l[i]?.map fun c => D.tup [.int ((k + i : Nat) : Int), .str ⟨#[c]⟩]
  | [], k, i => by simp [enL]
  | c :: cs, k, 0 => by simp [enL]
  | c :: cs, k, i + 1 => by
    have := enL_get cs (k + 1) i
    simp only [enL, List.getElem?_cons_succ]
    rw [this, show k + 1 + i = k + (i + 1) by omega]
theorem enL_len : ∀ (l : List Nat) (k : Nat), (enL k l).length = l.length
  | [], _ => rfl
  | c :: cs, k => by rw [enL, List.length_cons, List.length_cons, enL_len cs]
section
variable {X : Cx} {Y : Sys} {W : WX} {n : Nat} {N : List Str} {sc : Scope} {pos p p2 : Pos} {a' b' c' tg : Expr} {a b e : CE Y.S} {st : Bool}
theorem gd_en {K : PySem.W.Frag} {x : Str} : Gd (Y := Y) K true (Itn x) (fun _ => True) (enL 0 x.cps.toList) := by
  intro c _ ok i
  refine ⟨fun hi => ?_, fun d hd => ?_⟩
  · rw [enL_len, Array.length_toList] at hi
    exact hi
  · rw [enL_get] at hd
    obtain ⟨ch, h1, rfl⟩ := Option.map_eq_some_iff.mp hd
    have h1 : x.cps[i]? = some ch := by simpa using h1
    refine ⟨⟨ch, h1⟩, fun v H' hy => ?_⟩
    obtain ⟨T, ch', rfl, hT, rfl, h2⟩ := hy
    rw [h1] at h2
    cases h2
    refine ⟨⟨upd c.F T (.tup [.int (i : Nat), .str ⟨#[ch]⟩]), upd c.H T (.tup [.int (i : Nat), .str ⟨#[ch]⟩]), c.s, c.g⟩, rfl, rfl, Step.new ok hT _, ok.new hT _, .inr ⟨rfl, T, [.int (i : Nat), .str ⟨#[ch]⟩], _, rfl, rfl, .inl (.inl upd_same), ?_⟩⟩
    rw [Nat.zero_add]
    exact .cons (.int _) (.cons (.str _) .nil)
theorem si_enm (C : Cxt X W n N sc) (hg : glB sc "enumerate" = true) (hs : notStar a' = true) (ht : isTupE tg = true) (ha : PE X a' (tE X.K X.mg W a)) : PI X tg (.Call (.Name "enumerate" p) [a'] [] pos) (tI X.K X.mg W st (.enm a)) := by
  cases tg <;> first | cases ht | skip
  refine (pi_en (C.gl hg) (C.bltn (by decide +kernel)) (pa_cons ha pa_nil (star_cons hs _ _)) (star_cons hs _ _)).weak fun σ H R h => ?_
  obtain ⟨c, H0, ρ, rfl, ok, rel, p⟩ := h
  have p : Post X.mg W σ c (JI X.K st true c) R ((ev a ρ c.s).bind fun x s => liftO s (enmD x.2)) := p
  refine tR.bind ok rel p fun x c1 xa ea t1 ok1 rel1 j1 p1 => ?_
  obtain ⟨k, d⟩ := xa
  cases d with
  | str z =>
    have p1 : Post X.mg W σ c (JI X.K st true c) R (liftO c1.s (if lenOk z.length then some (enL 0 z.cps.toList) else none)) := p1
    split at p1
    · exact ⟨z, by rw [Is.str j1], p1 _ c1 rfl t1 ok1 ⟨fun _ => True, gd_en, fun _ _ => trivial⟩⟩
    · exact p1.elim
  | _ => exact p1.elim
def kStr (x : V) (H : Hp) (Q : VK) : Prop := (∃ i : Int, x = .int i ∧ i.natAbs.log2 < 1920 ∧ Q (.str (toString i)) H) ∨ ∃ y : Str, x = .str y ∧ Q (.str y) H
theorem call_strZ : CallR X (.type "str") (L2.r1 kStr) := call_r1 fun pins s σ H x v Q I r h => by
  rcases h with ⟨i, rfl, hz, q⟩ | ⟨y, rfl, q⟩
  · exact call_str_int pins s σ H [.int i] [v] Q I (.cons r .nil) ⟨i, rfl, hz, q⟩
  · obtain ⟨t, rfl⟩ := r
    exact PySem.P.str_of_str ⟨.str y, H, I, ⟨t, rfl⟩, q⟩
theorem str_use {c : Cf Y} {K : PySem.W.Frag} {H1 : Hp} {k1 : K3} {x : V} {a d : D} {Q : VK} (ok : Ok c) (hx : Is K H1 c k1 x a) (e : strD a = some d) (q : Fin K c .v d Q) : (∃ y : Str, x = .str y ∧ y.length ≤ sizeLine ∧ Q (.str y) c.H) ∨ ∃ i : Int, x = .int i ∧ i.natAbs.log2 < 1920 ∧ Q (.str (toString i)) c.H := by
  unfold strD at e
  split at e
  · split at e
    · rename_i hl
      cases e
      exact .inl ⟨_, hx.str, szM hl, q.here ok (.str _)⟩
    · cases e
  · split at e
    · rename_i hl
      cases e
      have hl := of_decide_eq_true hl
      exact .inr ⟨_, hx.int, by omega, q.here ok (.str _)⟩
    · cases e
  · cases e
theorem se_fmt (ha : PE X a' (tE X.K X.mg W a)) : PE X (.FormattedValue a' (-1) none pos) (tE X.K X.mg W (.stx true a)) := by
  refine (pe_fmt ha).weak fun σ H Q h => ?_
  obtain ⟨c, H0, ρ, rfl, ok, rel, p⟩ := h
  have p : Post X.mg W σ c (JE X.K c) Q ((ev a ρ c.s).bind fun x s => kd s (strD x.2)) := p
  refine tR.bind ok rel p fun x c1 xa ea t1 ok1 rel1 j1 p1 => ?_
  obtain ⟨d, e, q⟩ := (p1.shiftE t1 ok1).kd
  exact str_use ok1 j1 e q
theorem se_stx (C : Cxt X W n N sc) (hg : glB sc "str" = true) (hs : notStar a' = true) (ha : PE X a' (tE X.K X.mg W a)) : PE X (.Call (.Name "str" p) [a'] [] pos) (tE X.K X.mg W (.stx false a)) := by
  have q : PE X (.Call (.Name "str" p) [a'] [] pos) (tThenZ (tE X.K X.mg W a) kStr) := pe_callTy call_strZ (C.gl hg) (C.bltn (by decide +kernel)) (by decide +kernel) (pa_cons ha pa_nil (star_cons hs _ _)) (he := star_cons hs _ _)
  refine q.weak fun σ H Q h => ?_
  obtain ⟨c, H0, ρ, rfl, ok, rel, p⟩ := h
  have p : Post X.mg W σ c (JE X.K c) Q ((ev a ρ c.s).bind fun x s => kd s (strD x.2)) := p
  refine tR.bind ok rel p fun x c1 xa ea t1 ok1 rel1 j1 p1 => ?_
  obtain ⟨d, e, q⟩ := (p1.shiftE t1 ok1).kd
  rcases str_use ok1 j1 e q with ⟨y, h1, _, h3⟩ | z
  · exact .inr ⟨y, h1, h3⟩
  · exact .inl z
def teL (K : PySem.W.Frag) (mg : Str → Option Value) (W : WX) : CA Y.S → List TE
  | .nil => []
  | .cons e es => tE K mg W e :: teL K mg W es
theorem tJ_use {K : PySem.W.Frag} {mg : Str → Option Value} {σ : L2.St} {H0 : Hp} {ρ : List SV} : ∀ (es : CA Y.S) (acc : Str) (c : Cf Y) (Q : VK), Ok c → Rel K H0 c σ ρ → Post mg W σ c (JE K c) Q (evJ es acc ρ c.s) → tJs (teL K mg W es) acc σ c.H fun out H1 => Q (.str out) H1
  | .nil, acc, c, Q, ok, rel, p => by
    have p : Post mg W σ c (JE K c) Q (.ok (.v, .str acc) c.s) := p
    exact p.fin ok (show Rep K c.F (.str acc) (.str acc) from .str acc)
  | .cons e es, acc, c, Q, ok, rel, p => by
    have p : Post mg W σ c (JE K c) Q ((ev e ρ c.s).bind fun x s => catS x acc fun acc => evJ es acc ρ s) := p
    show tE K mg W e σ c.H _
    refine tR.bind ok rel p fun x c1 xa ea t1 ok1 rel1 j1 p1 => ?_
    obtain ⟨k, d⟩ := xa
    cases d with
    | str y =>
      have p1 : Post mg W σ c (JE K c) Q (if lenOk (acc ++ y).length then evJ es (acc ++ y) ρ c1.s else .er) := p1
      split at p1
      · rename_i hl
        exact ⟨y, Is.str j1, szM hl, tJ_use es (acc ++ y) c1 Q ok1 rel1 (p1.shiftE t1 ok1)⟩
      · exact p1.elim
    | _ => exact p1.elim
theorem se_fst {x1 x2 : Expr} {xs : List Expr} {es : CA Y.S} (h : PJ X (x1 :: x2 :: xs) (teL X.K X.mg W es)) : PE X (.JoinedStr (x1 :: x2 :: xs) pos) (tE X.K X.mg W (.fst es)) := by
  refine (pe_joined h).weak fun σ H Q h => ?_
  obtain ⟨c, H0, ρ, rfl, ok, rel, p⟩ := h
  exact tJ_use es Str.empty c Q ok rel p
def kLss (x : V) (H : Hp) (Q : VK) : Prop := ∃ z : Str, x = .str z ∧ z.length ≤ sizeLine ∧ ∀ q, H q = none → Q (.ref q) (upd H q (.lst (z.cps.toList.map fun c => V.str ⟨#[c]⟩)))
theorem rl_lss (hc : X.calm = true) (pins : List (Addr × Obj)) (s : Shared) (σ : L2.St) (H : Hp) (x : V) (v : Value) (Q : VK) (I : Inv X pins σ H s) (r : RelV x v) (h : kLss x H Q) :
    wpAny (model X.prog X.w) X.A (call (.type "list") [v]) (EP X pins σ Q) X.xe s := by
  obtain ⟨z, rfl, hz, q⟩ := h
  obtain ⟨t, rfl⟩ := r
  refine call_list_str (hn := hz) (I.ok.hd hc) z t fun h' tk acc c' hk e hi => ?_
  refine ⟨.ref s.heap.objs.size, upd H s.heap.objs.size (.lst (z.cps.toList.map fun c => V.str ⟨#[c]⟩)), I.laid hk (Nat.le_refl _) ⟨by rw [List.length_map, Array.length_toList]; exact hz, acc.toList, c', ?_, by rw [Array.toArray_toList]; exact e⟩, rfl, q _ (I.hok.fresh (Nat.le_refl _))⟩
  refine vals_of_idx _ _ (by rw [List.length_map, Array.length_toList, Array.length_toList]; exact hi.1) fun j u hj => ?_
  obtain ⟨c, t', hc, rfl⟩ := hi.2 j u (by rw [← Array.getElem?_toList]; exact hj)
  exact ⟨.str ⟨#[c]⟩, by simp [hc], ⟨_, rfl⟩⟩
theorem chars_rep {K : PySem.W.Frag} {F : Hp} : ∀ (l : List Nat), Reps K F (l.map fun c => V.str ⟨#[c]⟩) (l.map fun c => D.str ⟨#[c]⟩)
  | [] => .nil
  | c :: cs => .cons (.str _) (chars_rep cs)
theorem se_lss (C : Cxt X W n N sc) (hg : glB sc "list" = true) (hs : notStar a' = true) (ha : PE X a' (tE X.K X.mg W a)) : PE X (.Call (.Name "list" p) [a'] [] pos) (tE X.K X.mg W (.lss a)) := by
  have q : PE X (.Call (.Name "list" p) [a'] [] pos) (tThenZ (tE X.K X.mg W a) kLss) := pe_callTy (call_r1 (rl_lss C.calm)) (C.gl hg) (C.bltn (by decide +kernel)) (by decide +kernel) (pa_cons ha pa_nil (star_cons hs _ _)) (he := star_cons hs _ _)
  refine q.weak fun σ H Q h => ?_
  obtain ⟨c, H0, ρ, rfl, ok, rel, p⟩ := h
  have p : Post X.mg W σ c (JE X.K c) Q ((ev a ρ c.s).bind fun x s => liftO s (lssD x.2)) := p
  refine tR.bind ok rel p fun x c1 xa ea t1 ok1 rel1 j1 p1 => ?_
  obtain ⟨k, d, e, q⟩ := (p1.shiftE t1 ok1).lift
  unfold lssD at e
  split at e
  · split at e
    · rename_i z ez hl
      cases e
      obtain ⟨k1, d1⟩ := xa
      have ez : d1 = .str z := ez
      subst ez
      exact ⟨z, Is.str j1, szM hl, q.lst ok1 (chars_rep _)⟩
    · cases e
  · cases e
end
end Mf
set_option Elab.async false
set_option linter.all false
set_option maxRecDepth 100000
set_option maxHeartbeats 1000000
namespace Mf
open PySem L2 PySem.Spec PyProof.Rows PyProof.Rows.KTD
def tabDat (t : List (Str × D)) : List (Str × Dat) := t.map fun p => (p.1, Dat.flat (datP p.2))
def flV : D → V
  | .int i => .int i
  | .str x => .str x
  | .bl b => .bl b
  | _ => .non
theorem flV_rep {K : PySem.W.Frag} {F : Hp} {d : D} (h : fl3 d = true) : Rep K F (flV d) d := by
  cases d <;> first | cases h | skip
  · exact .non
  · exact .bl _
  · exact .int _
  · exact .str _
theorem flV_rel {h : Heap} {d : D} {v : Value} (hd : fl3 d = true) (r : (Dat.flat (datP d)).At h v) : RelV (flV d) v := by
  cases d <;> first | cases hd | skip
  all_goals (have r := r h; cases r; first | rfl | exact ⟨_, rfl⟩)
theorem datum_tab (k : Str) : ∀ t : List (Str × D), datumAt k (tabDat t) = (lookD k t).map fun d => Dat.flat (datP d)
  | [] => rfl
  | (x, d) :: t => by
    have ih := datum_tab k t
    unfold tabDat at ih ⊢
    rw [List.map_cons]
    unfold datumAt lookD
    by_cases q : x = k
    · subst q
      simp
    · rw [if_neg q]
      simp only [Ne.symm q, decide_false, Bool.false_eq_true, if_false]
      exact ih
theorem look_fl {k : Str} {d : D} : ∀ {t : List (Str × D)}, (t.all fun p => fl3 p.2) = true → lookD k t = some d → fl3 d = true
  | [], _, e => by cases e
  | (x, d') :: t, h, e => by
    rw [List.all_cons, Bool.and_eq_true] at h
    unfold lookD at e
    split at e
    · cases e; exact h.1
    · exact look_fl h.2 e
section
variable {X : Cx} {Y : Sys} {W : WX} {n : Nat} {N : List Str} {sc : Scope} {pos p p2 : Pos} {a' b' c' tg : Expr} {a b e : CE Y.S} {st : Bool}
theorem tab_here {pins : List (Addr × Obj)} {σ : L2.St} {H : Hp} {s : Shared} {A : Addr} {t : List (Str × D)} (I : Inv X pins σ H s) (h : tabKB X.K A t = true) : Here s.heap s.heap A (tabDat t) := by
  unfold tabKB at h
  rw [Bool.and_eq_true] at h
  exact ⟨text_of_look (fun a o e => I.kIn a o e) h.2, fun _ _ z => z⟩
theorem tab_all {A : Addr} {t : List (Str × D)} (h : tabKB X.K A t = true) : (t.all fun p => fl3 p.2) = true := by
  unfold tabKB at h
  rw [Bool.and_eq_true] at h
  exact h.1
theorem pe_tabN {x : Str} {A : Addr} (C : Cxt X W n N sc) (h2 : glB sc x = true) (e1 : X.mg x = some (.ref A)) : PE X (.Name x pos) (tC (.ref A)) := by
  obtain ⟨v1, v2, v3⟩ := glB_ok h2
  exact pe_glob (X := X) (x := x) (pos := pos) (by unfold Gl Env.kindOf; rw [C.hs]; exact v1) e1 rfl v2
theorem getItem_tab {pins : List (Addr × Obj)} {σ : L2.St} {H : Hp} {s : Shared} {A : Addr} {t : List (Str × D)} {k : Str} {tk : Tok} {d : D} {Q : VK} (I : Inv X pins σ H s) (h : tabKB X.K A t = true) (e : lookD k t = some d) (q : Q (flV d) H) :
    wpAny (model X.prog X.w) X.A (getItem (.ref A) (.str k tk)) (EP X pins σ Q) X.xe s := by
  have T := tab_here I h
  unfold getItem
  try with_reducible refine wpAny_holding ?_
  refine wpAny_bind (wpAny_sequenceKey T.typeIs (by decide) ?_)
  refine wpAny_bind (wpAny_callSpecial?_slot (name := Str.ofString "__getitem__") T.typeIs PySem.F.slot_dict_getitem
    (wpAny_call_entry PySem.F.slot_dict_getitem T.typeIs PySem.F.entry_dict_getitem ?_ (args_dict_getitem _ _)))
  show wpAny _ _ (dictGet A (.str k tk) >>= _) _ _ s
  refine wpAny_bind (dictGet_text T (fun d' v ha hv => wpAny_pure ⟨v, rfl, wpAny_pure ⟨flV d, H, I.tok _, ?_, q⟩⟩) fun hn => ?_)
  · rw [datum_tab, e] at ha
    cases ha
    exact flV_rel (look_fl (tab_all h) e) hv
  · rw [datum_tab, e] at hn
    cases hn
theorem noSl_ok (h : notSlice a' = true) : NoSl a' := by
  intro o i
  cases a' <;> first | rfl | cases h
theorem se_dtb {x : Str} {t : List (Str × D)} (C : Cxt X W n N sc) (hg : glB sc x = true) (hs : notSlice a' = true) (g : Glb X.K X.mg x (.dct t)) (ha : PE X a' (tE X.K X.mg W a)) : PE X (.Subscript (.Name x p) a' pos) (tE X.K X.mg W (.dtb x t a)) := by
  obtain ⟨A, e1, hA⟩ : ∃ A, X.mg x = some (.ref A) ∧ tabKB X.K A t = true := g.2 rfl
  refine ⟨fun pins s σ H Q I h => ?_⟩
  obtain ⟨c, H0, ρ, rfl, ok, rel, p⟩ := h
  have p : Post X.mg W σ c (JE X.K c) Q ((ev a ρ c.s).bind fun x s => kd s (tabD t x.2)) := p
  refine subD_of PySem.F.slot_dict_getitem.lookup (noSl_ok hs) (thn ((pe_tabN (pos := _) C hg e1).run pins s σ c.H (fun v H1 => v = .ref A ∧ H1 = c.H) I ⟨rfl, rfl⟩) fun u s1 hv => ?_)
  obtain ⟨v, H1, I1, r1, rfl, rfl⟩ := hv
  obtain rfl : u = Value.ref A := r1
  have q : tE X.K X.mg W a σ c.H (fun (y : V) (H2 : Hp) => ∃ (k : Str) (d : D), y = V.str k ∧ lookD k t = some d ∧ Q (flV d) H2) := tR.bind ok rel p fun y c1 xa ea t1 ok1 rel1 j1 p1 => by
    obtain ⟨d, e, q⟩ := (p1.shiftE t1 ok1).kd
    obtain ⟨k1, d1⟩ := xa
    cases d1 with
    | str k => exact ⟨k, d, Is.str j1, e, q.here ok1 (flV_rep (look_fl (tab_all hA) e))⟩
    | _ => cases e
  refine thn (ha.run pins s1 σ c.H _ I1 q) fun iv s2 hv => ?_
  obtain ⟨y, H2, I2, ry, k, d, rfl, e, q2⟩ := hv
  obtain ⟨tk, rfl⟩ := ry
  exact ⟨(tab_here I2 hA).typeIs, getItem_tab I2 hA e q2⟩
theorem se_dgt {x : Str} {t : List (Str × D)} {apos cpos : Pos} (C : Cxt X W n N sc) (hg : glB sc x = true) (hs : notStar a' = true) (hs2 : notStar b' = true) (hl : (apos.endLine == cpos.line) = true) (g : Glb X.K X.mg x (.dct t)) (ha : PE X a' (tE X.K X.mg W a)) (hb : PE X b' (tE X.K X.mg W b)) :
    PE X (.Call (.Attribute (.Name x p) "get" apos) [a', b'] [] cpos) (tE X.K X.mg W (.dgt x t a b)) := by
  obtain ⟨A, e1, hA⟩ : ∃ A, X.mg x = some (.ref A) ∧ tabKB X.K A t = true := g.2 rfl
  refine ⟨fun pins s σ H Q I h => ?_⟩
  obtain ⟨c, H0, ρ, rfl, ok, rel, p⟩ := h
  have p : Post X.mg W σ c (JE X.K c) Q ((ev a ρ c.s).bind fun x s => onS x fun k => (ev b ρ s).bind fun y s => onV y s fun d s => .ok (.v, (lookD k t).getD d) s) := p
  have few : ((backTo cpos (starEach [a', b'] X.env)).all (fun x => !x.1) && (backToKw cpos (keywordEach [] X.env)).all (fun x => x.1.isSome) && decide ([a', b'].length + ([] : List Keyword).length + (if ([] : List Keyword).isEmpty then 0 else 1) < 30)) = true := by
    rw [star_cons hs, star_cons hs2]
    rfl
  have trees : backTo cpos (starEach [a', b'] X.env) = [(false, eval a' X.env), (false, eval b' X.env)] := by
    rw [star_cons hs, star_cons hs2]
    rfl
  refine wpAny_Call_method (rcv_base rfl) few hl PySem.F.plainAttrs_dict PySem.F.slot_dict_get PySem.F.type_dict_get (thn ((pe_tabN (pos := _) C hg e1).run pins s σ c.H (fun v H1 => v = .ref A ∧ H1 = c.H) I ⟨rfl, rfl⟩) fun u s1 hv => ?_)
  obtain ⟨v, H1, I1, r1, rfl, rfl⟩ := hv
  obtain rfl : u = Value.ref A := r1
  refine ⟨(tab_here I1 hA).typeIs, (tab_here I1 hA).noDict, ?_⟩
  rw [trees]
  have q : tE X.K X.mg W a σ c.H (fun (y : V) (H2 : Hp) => ∃ k : Str, y = V.str k ∧ tE X.K X.mg W b σ H2 fun z H3 => (∀ d, lookD k t = some d → Q (flV d) H3) ∧ (lookD k t = none → Q z H3)) := tR.bind ok rel p fun y c1 xa ea t1 ok1 rel1 j1 p1 => by
    obtain ⟨k1, d1⟩ := xa
    cases d1 with
    | str k =>
      refine ⟨k, Is.str j1, tR.bind ok1 rel1 (p1.shiftE t1 ok1) fun z c2 za eb t2 ok2 rel2 j2 p2 => ?_⟩
      obtain ⟨k2, d2⟩ := za
      cases k2 with
      | v =>
        have p2 : Post X.mg W σ c1 (JE X.K c1) Q (.ok (.v, (lookD k t).getD d2) c2.s) := p2
        have q := (p2.shiftE t2 ok2).fi
        refine ⟨fun d e => ?_, fun e => ?_⟩
        · rw [e] at q
          exact q.here ok2 (flV_rep (look_fl (tab_all hA) e))
        · rw [e] at q
          exact q.here ok2 j2
      | _ => exact p2.elim
    | _ => exact p1.elim
  refine Calls.callWith_builtin rfl (Calls.evalArgs_plain (Calls.spliced_cons (thn (ha.run pins s1 σ c.H _ I1 q) fun iv s2 hv => ?_)))
  obtain ⟨y, H2, I2, ry, k, rfl, q2⟩ := hv
  obtain ⟨tk, rfl⟩ := ry
  refine Calls.spliced_cons (thn (hb.run pins s2 σ H2 _ I2 q2) fun fv s3 hv => Calls.spliced_nil ?_)
  obtain ⟨z, H3, I3, rz, q3, q4⟩ := hv
  have T := tab_here I3 hA
  refine call_meetsIn PySem.F.slot_dict_get T.typeIs PySem.F.entry_dict_get (PySem.F.args_dict_get_3 _ _ _) (meets_get2 (h₀ := s3.heap) (D := tabDat t)) ⟨T, fun d' v ha hv => ?_, fun hn => ?_⟩
  · rw [datum_tab] at ha
    obtain ⟨d, e, rfl⟩ := Option.map_eq_some_iff.mp ha
    exact ⟨flV d, H3, I3.tok _, flV_rel (look_fl (tab_all hA) e) hv, q3 d e⟩
  · rw [datum_tab] at hn
    exact ⟨z, H3, I3.tok _, rz, q4 (Option.map_eq_none_iff.mp hn)⟩
def kvS (t : List (Str × Str)) : List (Key × V) := t.map fun p => (.inr p.1, .str p.2)
def trS (t : List (Str × Str)) : List (TE × TE) := t.map fun p => (tC (.str p.1), tC (.str p.2))
theorem pps_S {dp : Pos} : ∀ {t : List (Str × Str)} {ks : List (Option Expr)} {vs : List Expr}, chkD t ks vs = true → PPs X dp ks vs (trS t) ∧ ks.length = t.length ∧ vs.length = t.length ∧ ks.all (·.isSome) = true
  | [], ks, vs, h => by
    cases ks with
    | nil =>
      cases vs with
      | nil => exact ⟨pps_nil, rfl, rfl, rfl⟩
      | cons _ _ => cases h
    | cons _ _ => cases h
  | (k, v) :: t, ks, vs, h => by
    unfold chkD at h
    split at h
    · cases ‹(k, v) :: t = []›
    · rename_i k2 v2 t2 x p1 p2 ks2 y p3 p4 vs2 he
      cases he
      simp only [Bool.and_eq_true] at h
      obtain ⟨⟨h1, h2⟩, h3⟩ := h
      have e1 := beq_iff_eq.mp h1
      have e2 := beq_iff_eq.mp h2
      subst e1 e2
      obtain ⟨q, l1, l2, l3⟩ := pps_S (dp := dp) h3
      refine ⟨pps_cons pe_str pe_str q, by rw [List.length_cons, List.length_cons, l1], by rw [List.length_cons, List.length_cons, l2], by rw [List.all_cons, l3]; rfl⟩
    · cases h
theorem tPairs_S {σ : L2.St} {H : Hp} : ∀ (t : List (Str × Str)) {Q : List (V × V) → Hp → Prop}, Q (t.map fun p => (.str p.1, .str p.2)) H → tPairs (trS t) σ H Q
  | [], _, q => q
  | p :: t, Q, q => tPairs_S (σ := σ) (H := H) t (Q := fun ps H3 => Q ((.str p.1, .str p.2) :: ps) H3) q
theorem rep_kvS {K : PySem.W.Frag} {F : Hp} : ∀ t : List (Str × Str), RepK K F (kvS t) (tabS t)
  | [] => .nil
  | p :: t => .cons (.str _) (rep_kvS t)
theorem kvS_map : ∀ t : List (Str × Str), (t.map fun p => ((.str p.1, .str p.2) : V × V)) = (kvS t).map fun kv => (kV kv.1, kv.2)
  | [] => rfl
  | p :: t => by
    show (V.str p.1, V.str p.2) :: t.map _ = (kV (.inr p.1), V.str p.2) :: (kvS t).map _
    rw [kvS_map t]
    rfl
theorem se_dlt {t : List (Str × Str)} {ks : List (Option Expr)} {vs : List Expr} (C : Cxt X W n N sc) (hc : chkD t ks vs = true) (h0 : 0 < t.length) (h15 : t.length ≤ 15) (hs : notSlice a' = true) (ha : PE X a' (tE X.K X.mg W a)) : PE X (.Subscript (.Dict ks vs p) a' pos) (tE X.K X.mg W (.dlt t a)) := by
  obtain ⟨q, l1, l2, l3⟩ := pps_S (X := X) (dp := p) hc
  have hd : PE X (.Dict ks vs p) (tDisp (trS t)) := pe_disp q l3 (l1.trans l2.symm) (fun z => by rw [z] at l1; rw [List.length_nil] at l1; omega) (by omega)
  refine (pe_dget (hu_of C.room) hd ha (noSl_ok hs)).weak fun σ H Q h => ?_
  obtain ⟨c, H0, ρ, rfl, ok, rel, p⟩ := h
  have p : Post X.mg W σ c (JE X.K c) Q ((ev a ρ c.s).bind fun x s => kd s (tabD (dictD (tabS t)) x.2)) := p
  intro A hA
  refine tPairs_S t ⟨upd_same, kvS t, kvS_map t, by unfold kvS; rw [List.length_map]; exact h15, ?_⟩
  have ok1 := ok.own hA (.dK [])
  have t1 := Step.own ok hA (.dK [])
  have ok2 := Ok.mut (c := ⟨c.F, upd c.H A (.dK []), c.s, c.g⟩) ok1 (p := A) (ok.fr hA) (fun z => ok.has A z hA) (.dK (mergeK [] (kvS t)))
  have t2 : Step c (⟨c.F, upd (upd c.H A (.dK [])) A (.dK (mergeK [] (kvS t))), c.s, c.g⟩ : Cf Y) := Step.mut (c := ⟨c.F, upd c.H A (.dK []), c.s, c.g⟩) t1 hA (.dK (mergeK [] (kvS t)))
  refine tR.bind (c := ⟨c.F, upd (upd c.H A (.dK [])) A (.dK (mergeK [] (kvS t))), c.s, c.g⟩) ok2 (rel.step t2) (p.shiftE t2 ok2) fun y c3 xa ea t3 ok3 rel3 j3 p3 => ?_
  obtain ⟨d, e, q⟩ := (p3.shiftE t3 ok3).kd
  obtain ⟨k1, d1⟩ := xa
  cases d1 with
  | str k =>
    have e : lookD k (dictD (tabS t)) = some d := e
    have hH : c3.H A = some (.dK (mergeK [] (kvS t))) := t3.h A _ upd_same fun z => ok.has A z hA
    have rk : RepK X.K c3.F (mergeK [] (kvS t)) (dictD (tabS t)) := (rep_kvS t).merge .nil
    obtain ⟨v, ev, rv⟩ := (lookD_val (x := k) rk).1 d e
    exact ⟨A, v, rfl, by rw [Is.str j3, ← ev]; exact DGet.k (k := .inr k) hH, q.here ok3 rv⟩
  | _ => cases e
end
end Mf
set_option Elab.async false
set_option linter.all false
set_option maxRecDepth 100000
set_option maxHeartbeats 4000000
namespace Mf
open PySem L2

structure SE (X : Cx) {Y : Sys} (W : WX) (e : CE Y.S) (x : Expr) : Prop where
  pe : PE X x (tE X.K X.mg W e)
  pt : tstOk x = true → PT X x (tT X.K X.mg W e)
  pw : isBO x = true → PW X x (tT X.K X.mg W e)
section
variable {X : Cx} {Y : Sys} {W : WX} {n : Nat} {N : List Str} {sc : Scope}
theorem zip_cons {it : CI Y.S} {x tg' : Expr} {tg : Tg} {fns : Str → Bool} {sc' : Scope} (h : chkI N sc it x tg' = true) (hT : chkT N sc' fns tg tg' = true) : zipI it = true → consT tg = true := fun z => by
  have fin : isTupE tg' = true → consT tg = true := fun ht => by
    cases tg' <;> first | cases ht | skip
    cases tg with
    | cons _ _ => rfl
    | _ => unfold chkT chkTs at hT; cases hT
  cases it <;> first | cases z | skip
  · unfold chkI at h
    split at h
    · simp only [Bool.and_eq_true] at h
      exact fin h.1.1.2
    · cases h
  · unfold chkI at h
    split at h
    · simp only [Bool.and_eq_true] at h
      exact fin h.1.2
    · cases h
theorem SE.plain {e : CE Y.S} {x : Expr} (h : PE X x (tE X.K X.mg W e)) (hb : isBO x = false) (ht : tstOk x = true → tstP x = true) : SE X W e x :=
  ⟨h, fun z => (pt_val h (test_ok (ht z))).weak fun σ H Q q => tT_tE q, fun z => by rw [hb] at z; cases z⟩
abbrev Pn (X : Cx) (Y : Sys) (n : Nat) : Str → Nat → Sem Y.S → Prop := fun x m g => Has X.prog X.w X.K X.mg X.base Y n x m g
theorem pts_noIf {Y : Sys} (X' : Cx) (K : PySem.W.Frag) (mg : Str → Option Value) : PTs X' [] (tTs (Y := Y) K mg W0 .nil) := by
  refine ⟨fun pins s σ H Q I q => pts_nil.run pins s σ H Q I ?_⟩
  obtain ⟨c, H0, ρ, rfl, ok, rel, p⟩ := q
  have p : Post mg W0 σ c (JB c) Q (.ok true c.s) := p
  exact p.fin ok rfl
mutual
theorem sound {X : Cx} {W : WX} {sc : Scope} (C : Cxt X W n N sc) : ∀ (e : CE Y.S) (x : Expr), chkE N sc e x = true → needE (Pn X Y n) (Glb X.K X.mg) e → SE X W e x
  | .var i, x, h, _ => by
    cases x <;> first | cases h | skip
    have h := Bool.and_eq_true_iff.mp h
    exact .plain (se_var C h.1 h.2) rfl fun z => z
  | .con d, x, h, _ => by
    cases x <;> first | cases h | skip
    exact .plain (se_con h) rfl fun z => z
  | .glb y d, x, h, g => by
    cases x <;> first | cases h | skip
    unfold chkE at h
    simp only [Bool.and_eq_true, Bool.not_eq_true'] at h
    have e := beq_iff_eq.mp h.1.1.1
    subst e
    exact .plain (se_glb C h.1.1.2 h.1.2 h.2 g) rfl fun z => z
  | .tup es, x, h, g => by
    cases x <;> first | cases h | skip
    exact .plain (se_tup (soundA C es _ h g)) rfl fun z => z
  | .lst es, x, h, g => by
    cases x <;> first | cases h | skip
    exact .plain (se_lst (soundA C es _ h g)) rfl fun z => z
  | .bin o a b, x, h, g => by
    cases x <;> first | cases h | skip
    unfold chkE at h
    simp only [Bool.and_eq_true] at h
    rw [opEq_ok h.1.1]
    exact .plain (se_bin (sound C a _ h.1.2 g.1).pe (sound C b _ h.2 g.2).pe) rfl fun z => z
  | .neg a, x, h, g => by
    cases x <;> first | cases h | skip
    rename_i op _ _
    cases op <;> first | cases h | skip
    exact .plain (se_neg (sound C a _ h g).pe) rfl fun z => z
  | .not a, x, h, g => by
    cases x <;> first | cases h | skip
    rename_i op _ _
    cases op <;> first | cases h | skip
    unfold chkE at h
    simp only [Bool.and_eq_true] at h
    have s := sound C a _ h.1 g
    exact ⟨se_notE s.pe, fun _ => se_notT (s.pt h.2), fun z => nomatch z⟩
  | .cmp o a b, x, h, g => by
    unfold chkE at h
    split at h
    · rename_i a' o' b' pos
      simp only [Bool.and_eq_true] at h
      obtain ⟨⟨⟨h1, h2⟩, h3⟩, h4⟩ := h
      rw [cmpEq_ok h1]
      have s := se_cmpE (o := o) (pos := pos) C h2 (sound C a _ h3 g.1).pe (sound C b _ h4 g.2).pe
      exact ⟨s.1, fun _ => s.2, fun z => nomatch z⟩
    · cases h
  | .chn o p a b c, x, h, g => by
    unfold chkE at h
    split at h
    · rename_i a' o' p' b' c' pos
      simp only [Bool.and_eq_true] at h
      obtain ⟨⟨⟨⟨⟨h1, h2⟩, h3⟩, h4⟩, h5⟩, h6⟩ := h
      rw [cmpEq_ok h1, cmpEq_ok h2]
      have s := se_chn (o := o) (o2 := p) (pos := pos) C h3 (sound C a _ h4 g.1).pe (sound C b _ h5 g.2.1).pe (sound C c _ h6 g.2.2).pe
      exact ⟨s.1, fun _ => s.2, fun z => nomatch z⟩
    · cases h
  | .and a b, x, h, g => by
    unfold chkE at h
    split at h
    · rename_i a' b' r pos
      simp only [Bool.and_eq_true] at h
      obtain ⟨⟨h1, h2⟩, h3⟩ := h
      have s1 := sound C a _ h2 g.1
      have s2 := sound C b _ h3 g.2
      have w := se_andT (s1.pt h1) (s2.pw rfl)
      exact ⟨se_andE s1.pe s2.pe, fun _ => w.pt, fun _ => w⟩
    · cases h
  | .or a b, x, h, g => by
    unfold chkE at h
    split at h
    · rename_i a' b' r pos
      simp only [Bool.and_eq_true] at h
      obtain ⟨⟨h1, h2⟩, h3⟩ := h
      have s1 := sound C a _ h2 g.1
      have s2 := sound C b _ h3 g.2
      have w := se_orT (s1.pt h1) (s2.pw rfl)
      exact ⟨se_orE s1.pe s2.pe, fun _ => w.pt, fun _ => w⟩
    · cases h
  | .one a, x, h, g => by
    unfold chkE at h
    split at h
    · rename_i op a' pos
      simp only [Bool.and_eq_true] at h
      have s := sound C a _ h.2 g
      have w : PW X (.BoolOp op [a'] pos) (tT X.K X.mg W a) := by
        cases op with
        | And => exact pw_and1 (s.pt h.1)
        | Or => exact pw_or1 (s.pt h.1)
      have w2 : PW X (.BoolOp op [a'] pos) (tT X.K X.mg W (.one a)) := w.weak fun σ H Q q => q
      exact ⟨(pe_one s.pe).weak fun σ H Q q => q, fun _ => w2.pt, fun _ => w2⟩
    · cases h
  | .ife t a b, x, h, g => by
    unfold chkE at h
    split at h
    · rename_i t' a' b' pos
      simp only [Bool.and_eq_true] at h
      obtain ⟨⟨⟨h1, h2⟩, h3⟩, h4⟩ := h
      exact .plain (se_ife ((sound C t _ h2 g.1).pt h1) (sound C a _ h3 g.2.1).pe (sound C b _ h4 g.2.2).pe) rfl fun z => z
    · cases h
  | .ix a i, x, h, g => by
    unfold chkE at h
    split at h
    · rename_i a' i' pos
      simp only [Bool.and_eq_true] at h
      obtain ⟨⟨h1, h2⟩, h3⟩ := h
      exact .plain (se_ix C h1 (sound C a _ h2 g.1).pe (sound C i _ h3 g.2).pe) rfl fun z => z
    · cases h
  | .slL a lo, x, h, g => by
    unfold chkE at h
    split at h
    · simp only [Bool.and_eq_true] at h
      exact .plain (se_slL (sound C a _ h.1 g.1).pe (sound C lo _ h.2 g.2).pe) rfl fun z => z
    · cases h
  | .slH a hi, x, h, g => by
    unfold chkE at h
    split at h
    · simp only [Bool.and_eq_true] at h
      exact .plain (se_slH (sound C a _ h.1 g.1).pe (sound C hi _ h.2 g.2).pe) rfl fun z => z
    · cases h
  | .slB a lo hi, x, h, g => by
    unfold chkE at h
    split at h
    · simp only [Bool.and_eq_true] at h
      exact .plain (se_slB (sound C a _ h.1.1 g.1).pe (sound C lo _ h.1.2 g.2.1).pe (sound C hi _ h.2 g.2.2).pe) rfl fun z => z
    · cases h
  | .call y m gg es, x, h, g => by
    unfold chkE at h
    split at h
    · simp only [Bool.and_eq_true] at h
      obtain ⟨⟨⟨h1, h2⟩, h3⟩, h4⟩ := h
      have e := beq_iff_eq.mp h1
      subst e
      exact .plain (se_call C h2 (g.1.has (of_decide_eq_true h4)) h3 (soundA C es _ h3 g.2)) rfl fun z => z
    · cases h
  | .b1 f e, x, h, g => by
    unfold chkE at h
    split at h
    · simp only [Bool.and_eq_true] at h
      obtain ⟨⟨⟨h1, h2⟩, h3⟩, h4⟩ := h
      have e := beq_iff_eq.mp h1
      subst e
      exact .plain (se_b1 C h2 h3 (sound C _ _ h4 g).pe) rfl fun z => z
    · cases h
  | .m1 f a b, x, h, g => by
    unfold chkE at h
    split at h
    · simp only [Bool.and_eq_true] at h
      obtain ⟨⟨⟨⟨⟨h1, h2⟩, h3⟩, h4⟩, h5⟩, h6⟩ := h
      have e1 := beq_iff_eq.mp h1
      subst e1
      exact .plain (se_m1 C h2 h3 h4 (sound C _ _ h5 g.1).pe (sound C _ _ h6 g.2).pe) rfl fun z => z
    · cases h
  | .isi e t, x, h, g => by
    unfold chkE at h
    split at h
    · simp only [Bool.and_eq_true] at h
      obtain ⟨⟨⟨⟨⟨h1, h2⟩, h3⟩, h4⟩, h5⟩, h6⟩ := h
      have e1 := beq_iff_eq.mp h1
      have e2 := beq_iff_eq.mp h3
      subst e1 e2
      exact .plain (se_isi (p3 := ⟨0, 0, 0, 0⟩) C h2 h4 h5 (sound C _ _ h6 g).pe) rfl fun z => z
    · cases h
  | .lc it tg ifs elt vs, x, h, g => by
    unfold chkE at h
    split at h
    · rename_i elt' tg' iter' ifs' scope pos
      simp only [Bool.and_eq_true] at h
      obtain ⟨⟨⟨⟨⟨⟨h1, h2⟩, h3⟩, h4⟩, h5⟩, h6⟩, h7⟩ := h
      refine .plain (se_lc (py := ⟨0, 0, 0, 0⟩) (spos := ⟨0, 0, 0, 0⟩) C (zip_cons h1 h5) (soundI C false it _ _ h1 g.1) h2 h3 h4 h5 (fun X' a1 a2 a3 a4 a5 C' => ?_) (fun X' a1 a2 a3 a4 a5 C' => ?_)).1 rfl fun z => z
      · have q := soundC C' ifs _ h6 (by unfold Pn; rw [a1, a2, a3, a4, a5]; exact g.2.1)
        rw [a3, a4] at q
        exact q
      · have q := (sound C' elt _ h7 (by unfold Pn; rw [a1, a2, a3, a4, a5]; exact g.2.2)).pe
        rw [a3, a4] at q
        exact q
    · cases h
  | .rev e, x, h, g => by
    unfold chkE at h
    split at h
    · exact .plain (se_rev (sound C _ _ h g).pe) rfl fun z => z
    · cases h
  | .sset e, x, h, g => by
    unfold chkE at h
    split at h
    · rename_i y p1 z p2 e' p3 p4
      simp only [Bool.and_eq_true] at h
      obtain ⟨⟨⟨⟨⟨h1, h2⟩, h3⟩, h4⟩, h5⟩, h6⟩ := h
      have e1 := beq_iff_eq.mp h1
      have e2 := beq_iff_eq.mp h3
      subst e1 e2
      exact .plain (se_sset C h2 h4 h5 (sound C _ _ h6 g).pe) rfl fun z => z
    · cases h
  | .isx e y, x, h, g => by
    unfold chkE at h
    split at h
    · simp only [Bool.and_eq_true] at h
      obtain ⟨⟨⟨⟨⟨⟨h1, h2⟩, h3⟩, h4⟩, h5⟩, h6⟩, h7⟩ := h
      have e1 := beq_iff_eq.mp h1
      have e2 := beq_iff_eq.mp h3
      subst e1 e2
      exact .plain (se_isx C g.1 h2 h4 h5 h6 (sound C _ _ h7 g.2).pe) rfl fun z => z
    · cases h
  | .lrng e, x, h, g => by
    unfold chkE at h
    split at h
    · rename_i y p1 z p2 e' p3 p4
      simp only [Bool.and_eq_true] at h
      obtain ⟨⟨⟨⟨⟨h1, h2⟩, h3⟩, h4⟩, h5⟩, h6⟩ := h
      have e1 := beq_iff_eq.mp h1
      have e2 := beq_iff_eq.mp h3
      subst e1 e2
      exact .plain (se_lrng C h2 h4 h5 (sound C _ _ h6 g).pe) rfl fun z => z
    · cases h
  | .lc2 it tg it1 tg1 elt vs vs1, x, h, g => by
    unfold chkE at h
    split at h
    · rename_i elt' tg' iter' tg1' iter1' scope pos
      simp only [Bool.and_eq_true] at h
      obtain ⟨⟨⟨⟨⟨h1, h2⟩, h3⟩, h4⟩, h5⟩, ⟨⟨⟨⟨⟨k1, k2⟩, k3⟩, k4⟩, k5⟩, k6⟩⟩ := h
      refine .plain (se_lc2 (py := ⟨0, 0, 0, 0⟩) (spos := ⟨0, 0, 0, 0⟩) C (zip_cons h1 h5) (zip_cons k1 k4) (soundI C false it _ _ h1 g.1) h2 k2 h3 h4 k3 k5 h5 k4 (fun X' a1 a2 a3 a4 a5 C' => ?_) (fun X' a1 a2 a3 a4 a5 C' => ?_) (fun X' a1 a2 a3 a4 a5 C' => ?_)).1 rfl fun z => z
      · exact pts_noIf X' X.K X.mg
      · have q := soundI C' true it1 _ _ k1 (by unfold Pn; rw [a1, a2, a3, a4, a5]; exact g.2.1)
        rw [a3, a4] at q
        exact q
      · have q := (sound C' elt _ k6 (by unfold Pn; rw [a1, a2, a3, a4, a5]; exact g.2.2)).pe
        rw [a3, a4] at q
        exact q
    · cases h
  | .stx f e, x, h, g => by
    cases f with
    | true =>
      unfold chkE at h
      dsimp only at h
      split at h
      · exact .plain (se_fmt (sound C _ _ h g).pe) rfl fun z => nomatch z
      · cases h
    | false =>
      unfold chkE at h
      dsimp only at h
      split at h
      · simp only [Bool.and_eq_true] at h
        obtain ⟨⟨⟨h1, h2⟩, h3⟩, h4⟩ := h
        have e1 := beq_iff_eq.mp h1
        subst e1
        exact .plain (se_stx C h2 h3 (sound C _ _ h4 g).pe) rfl fun z => z
      · cases h
  | .fst es, x, h, g => by
    unfold chkE at h
    split at h
    · exact .plain (se_fst (soundJ C es _ h g)) rfl fun z => nomatch z
    · cases h
  | .dtb y t k, x, h, g => by
    unfold chkE at h
    split at h
    · simp only [Bool.and_eq_true] at h
      obtain ⟨⟨⟨h1, h2⟩, h3⟩, h4⟩ := h
      have e1 := beq_iff_eq.mp h1
      subst e1
      exact .plain (se_dtb C h2 h3 g.1 (sound C _ _ h4 g.2).pe) rfl fun z => z
    · cases h
  | .dgt y t k d, x, h, g => by
    unfold chkE at h
    split at h
    · simp only [Bool.and_eq_true] at h
      obtain ⟨⟨⟨⟨⟨⟨⟨h1, h2⟩, h3⟩, h4⟩, h5⟩, h6⟩, h7⟩, h8⟩ := h
      have e1 := beq_iff_eq.mp h1
      have e2 := beq_iff_eq.mp h3
      subst e1 e2
      exact .plain (se_dgt C h2 h4 h5 h6 g.1 (sound C _ _ h7 g.2.1).pe (sound C _ _ h8 g.2.2).pe) rfl fun z => z
    · cases h
  | .dlt t k, x, h, g => by
    unfold chkE at h
    split at h
    · simp only [Bool.and_eq_true] at h
      obtain ⟨⟨⟨⟨h1, h2⟩, h3⟩, h4⟩, h5⟩ := h
      exact .plain (se_dlt C h1 (of_decide_eq_true h2) (of_decide_eq_true h3) h4 (sound C _ _ h5 g).pe) rfl fun z => z
    · cases h
  | .lss e, x, h, g => by
    unfold chkE at h
    split at h
    · simp only [Bool.and_eq_true] at h
      obtain ⟨⟨⟨h1, h2⟩, h3⟩, h4⟩ := h
      have e1 := beq_iff_eq.mp h1
      subst e1
      exact .plain (se_lss C h2 h3 (sound C _ _ h4 g).pe) rfl fun z => z
    · cases h
  | .isl e, x, h, g => by
    unfold chkE at h
    split at h
    · simp only [Bool.and_eq_true] at h
      obtain ⟨⟨⟨⟨⟨⟨⟨h1, h2⟩, h3⟩, h4⟩, h5⟩, h6⟩, h7⟩, h8⟩ := h
      have e1 := beq_iff_eq.mp h1
      have e2 := beq_iff_eq.mp h3
      have e3 := beq_iff_eq.mp h5
      subst e1 e2 e3
      exact .plain (se_isl C h2 h4 h6 h7 (sound C _ _ h8 g).pe) rfl fun z => z
    · cases h
  | .fld a f gg, x, h, g => by
    unfold chkE at h
    split at h
    · simp only [Bool.and_eq_true] at h
      obtain ⟨⟨h1, h2⟩, h3⟩ := h
      have e := beq_iff_eq.mp h1
      subst e
      exact .plain (se_fld C (g.1.fld rfl) h2 (sound C a _ h3 g.2).pe) rfl fun z => nomatch z
    · cases h
  | .mcl a y m ck gg es, x, h, g => by
    unfold chkE at h
    split at h
    · simp only [Bool.and_eq_true] at h
      obtain ⟨⟨⟨⟨⟨h1, h2⟩, h29⟩, hal⟩, h3⟩, h4⟩ := h
      have e := beq_iff_eq.mp h1
      subst e
      have hm := g.2.1.meth (by omega)
      rw [Nat.add_sub_cancel_left] at hm
      exact .plain (se_mcl C (g.1.ins rfl) hm h2 (sound C a _ h3 g.2.2.1).pe h4 (of_decide_eq_true h29) hal (soundA C es _ h4 g.2.2.2)) rfl fun z => z
    · cases h
theorem soundA {X : Cx} {W : WX} {sc : Scope} (C : Cxt X W n N sc) : ∀ (es : CA Y.S) (xs : List Expr), chkA N sc es xs = true → needA (Pn X Y n) (Glb X.K X.mg) es → PA X xs (tA X.K X.mg W es)
  | .nil, xs, h, _ => by
    cases xs <;> first | cases h | skip
    exact sa_nil
  | .cons e es, xs, h, g => by
    cases xs <;> first | cases h | skip
    unfold chkA at h
    simp only [Bool.and_eq_true] at h
    exact sa_cons h.1.1 (sound C e _ h.1.2 g.1).pe (soundA C es _ h.2 g.2)
theorem soundJ {X : Cx} {W : WX} {sc : Scope} (C : Cxt X W n N sc) : ∀ (es : CA Y.S) (xs : List Expr), chkA N sc es xs = true → needA (Pn X Y n) (Glb X.K X.mg) es → PJ X xs (teL X.K X.mg W es)
  | .nil, xs, h, _ => by
    cases xs <;> first | cases h | skip
    exact .nil
  | .cons e es, xs, h, g => by
    cases xs <;> first | cases h | skip
    unfold chkA at h
    simp only [Bool.and_eq_true] at h
    exact .cons (sound C e _ h.1.2 g.1).pe (soundJ C es _ h.2 g.2)
theorem soundC {X : Cx} {W : WX} {sc : Scope} (C : Cxt X W n N sc) : ∀ (es : CA Y.S) (xs : List Expr), chkC N sc es xs = true → needA (Pn X Y n) (Glb X.K X.mg) es → PTs X xs (tTs X.K X.mg W es)
  | .nil, xs, h, _ => by
    cases xs with
    | nil =>
      refine ⟨fun pins s σ H Q I q => pts_nil.run pins s σ H Q I ?_⟩
      obtain ⟨c, H0, ρ, rfl, ok, rel, p⟩ := q
      have p : Post X.mg W σ c (JB c) Q (.ok true c.s) := p
      exact p.fin ok rfl
    | cons _ _ => unfold chkC at h; cases h
  | .cons e es, xs, h, g => by
    unfold chkC at h
    split at h
    · cases ‹CA.cons e es = _›
    · rename_i e1 x1 he
      cases he
      simp only [Bool.and_eq_true] at h
      have s := (sound C e _ h.2 g.1).pt h.1
      exact ⟨fun pins s' σ H Q I q => (pts_one s).run pins s' σ H Q I q⟩
    · cases h
theorem soundI {X : Cx} {W : WX} {sc : Scope} (C : Cxt X W n N sc) (st : Bool) : ∀ (it : CI Y.S) (x tg : Expr), chkI N sc it x tg = true → needI (Pn X Y n) (Glb X.K X.mg) it → PI X tg x (tI X.K X.mg W st it)
  | .seq e, x, tg, h, g => si_seq (sound C e x h g).pe
  | .rng e, x, tg, h, g => by
    unfold chkI at h
    split at h
    · simp only [Bool.and_eq_true] at h
      obtain ⟨⟨⟨h1, h2⟩, h3⟩, h4⟩ := h
      have e := beq_iff_eq.mp h1
      subst e
      exact si_rng C h2 h3 (sound C _ _ h4 g).pe
    · cases h
  | .zip a b, x, tg, h, g => by
    unfold chkI at h
    split at h
    · simp only [Bool.and_eq_true] at h
      obtain ⟨⟨⟨⟨⟨⟨h1, h2⟩, h3⟩, h4⟩, h5⟩, h6⟩, h7⟩ := h
      have e := beq_iff_eq.mp h1
      subst e
      exact si_zip C h2 h3 h4 h5 (sound C _ _ h6 g.1).pe (sound C _ _ h7 g.2).pe
    · cases h
  | .enm e, x, tg, h, g => by
    unfold chkI at h
    split at h
    · simp only [Bool.and_eq_true] at h
      obtain ⟨⟨⟨⟨h1, h2⟩, h3⟩, h4⟩, h5⟩ := h
      have e := beq_iff_eq.mp h1
      subst e
      exact si_enm C h2 h3 h4 (sound C _ _ h5 g).pe
    · cases h
end
end
end Mf
set_option Elab.async false
set_option linter.all false
set_option maxRecDepth 100000
set_option maxHeartbeats 1000000
namespace Mf
open PySem L2

mutual
inductive CS (S : Type) : Type where
  | asg (own : Bool) (i : Nat) (e : CE S)
  | asgT (tg : Tg) (e : CE S) | asgU (tg : Tg) (e : CE S)
  | par (oi oj : Bool) (i j : Nat) (a b : CE S)
  | ret (e : CE S) | retN | expr (e : CE S) | never
  | ife (t : CE S) (a b : CSs S)
  | forr (tg : Tg) (it : CI S) (body : CSs S)
  | whl (t : CE S) (body : CSs S) (fuel : List SV → S → Nat)
  | app (i : Nat) (e : CE S) | ext (i : Nat) (e : CE S) | rem (i : Nat) (e : CE S) | seti (i : Nat) (k e : CE S)
  | frz (i : Nat) (c : CS S)
  | rse (x : Str) | tryc (i j k : Nat) (e : CE S)
  | asgx (i : Nat) (it : CI S) (tg : Tg) (elt : CE S) (vs : List Nat)
inductive CSs (S : Type) : Type where
  | nil | cons (c : CS S) (cs : CSs S)
end
inductive Out (S : Type) where
  | nx (ρ : List SV) (s : S) | rt (d : D) (s : S) | ex (x : Str) (s : S) | er
def Res.ob {S α : Type} : Res S α → (α → S → Out S) → Out S
  | .ok a s, f => f a s
  | .ex x s, _ => .ex x s
  | .er, _ => .er
def Out.sq {S : Type} : Out S → (List SV → S → Out S) → Out S
  | .nx ρ s, f => f ρ s
  | o, _ => o
def stow : Bool → K3 × D → Option SV
  | true, (.t, d) => some (.ow d)
  | false, (.v, d) => some (.va d)
  | false, (.t, d) => some (.va d)
  | _, _ => none
def put (ρ : List SV) (i : Nat) (x : SV) : Option (List SV) := if i < ρ.length then some (ρ.set i x) else none
def onO {S α : Type} (o : Option α) (f : α → Out S) : Out S := match o with | some a => f a | none => .er
def forR {S : Type} (f : D → List SV → S → Out S) : List D → List SV → S → Out S
  | [], ρ, s => .nx ρ s
  | d :: ds, ρ, s => (f d ρ s).sq (forR f ds)
def whlR {S : Type} (t : List SV → S → Res S Bool) (b : List SV → S → Out S) : Nat → List SV → S → Out S
  | 0, _, _ => .er
  | n + 1, ρ, s => (t ρ s).ob fun k s1 => if k then (b ρ s1).sq (whlR t b n) else .nx ρ s1
def ownL (ρ : List SV) (i : Nat) : Option (List D) := match ρ[i]? with | some (.ow (.lst ds)) => some ds | _ => none
def setD : SV → D → D → Option SV
  | .ow (.lst ds), .int k, v => (ixN ds.length k).map fun j => .ow (.lst (ds.set j v))
  | .ow (.dct es), .str k, v => if lenOk (es.length + 1) then some (.ow (.dct (putD es k v))) else none
  | _, _, _ => none
def notOw : SV → Bool
  | .ow _ => false
  | _ => true
def isOw : Option SV → Bool
  | some (.ow _) => true
  | _ => false
def lcX {S : Type} (tg : Tg) (elt : CE S) (ρ : List SV) : D → S → Res S (Option D) := fun d s => match asgT tg d ρ with
  | none => .er
  | some ρ' => (ev elt ρ' s).bind fun y s => (dat y s).bind fun e s => .ok (some e) s
def evX {S : Type} (it : CI S) (tg : Tg) (elt : CE S) (vs : List Nat) : List SV → S → Res S (K3 × D) := fun ρ s =>
  (evI false it ρ s).bind fun ds s => if !lenOk ds.length then .er else (walkR (lcX tg elt (wipeR ρ vs)) ds s).bind fun r s => .ok (.t, .lst r) s
mutual
def run {S : Type} : CS S → List SV → S → Out S
  | .asg own i e, ρ, s => (ev e ρ s).ob fun x s => onO (stow own x) fun v => onO (put ρ i v) fun ρ' => .nx ρ' s
  | .asgT tg e, ρ, s => (ev e ρ s).ob fun x s => (dat x s).ob fun d s => onO (asgT tg d ρ) fun ρ' => .nx ρ' s
  | .asgU tg e, ρ, s => (ev e ρ s).ob fun x s => match x.2 with | .lst ds => onO (asgL tg ds ρ) fun ρ' => .nx ρ' s | _ => .er
  | .par oi oj i j a b, ρ, s => (ev a ρ s).ob fun x s => onO (stow oi x) fun u => (ev b ρ s).ob fun y s => onO (stow oj y) fun v => onO (put ρ i u) fun ρ1 => onO (put ρ1 j v) fun ρ2 => .nx ρ2 s
  | .ret e, ρ, s => (ev e ρ s).ob fun x s => (dat x s).ob fun d s => .rt d s
  | .retN, _, s => .rt .non s
  | .expr e, ρ, s => (ev e ρ s).ob fun _ s => .nx ρ s
  | .never, _, _ => .er
  | .ife t a b, ρ, s => ((ev t ρ s).bind tru).ob fun k s => if k then runs a ρ s else runs b ρ s
  | .forr tg it body, ρ, s => (evI true it ρ s).ob fun ds s => forR (fun d ρ s => onO (asgT tg d ρ) fun ρ' => runs body ρ' s) ds ρ s
  | .whl t body fuel, ρ, s => whlR (fun ρ s => (ev t ρ s).bind tru) (runs body) (fuel ρ s) ρ s
  | .app i e, ρ, s => onO (ownL ρ i) fun ds => (ev e ρ s).ob fun x s => (dat x s).ob fun d s => if lenOk (ds.length + 1) then .nx (ρ.set i (.ow (.lst (ds ++ [d])))) s else .er
  | .ext i e, ρ, s => onO (ownL ρ i) fun ds => (ev e ρ s).ob fun x s => match x.2 with | .lst es => if lenOk (ds.length + es.length) then .nx (ρ.set i (.ow (.lst (ds ++ es)))) s else .er | _ => .er
  | .rem i e, ρ, s => onO (ownL ρ i) fun ds => (ev e ρ s).ob fun x s => if x.2.sh 60 && shs 59 ds then onO (ds.findIdx? fun z => deq z x.2) fun j => .nx (ρ.set i (.ow (.lst (ds.eraseIdx j)))) s else .er
  | .seti i k e, ρ, s => (ev e ρ s).ob fun x s => (dat x s).ob fun d s => if isOw ρ[i]? then (ev k ρ s).ob fun y s => onO ((ρ[i]?).bind fun o => setD o y.2 d) fun o => .nx (ρ.set i o) s else .er
  | .frz i c, ρ, s => match ρ[i]? with | some (.ow d) => run c (ρ.set i (.va d)) s | _ => run c ρ s
  | .rse x, _, s => if excNames.contains x = true then .ex x s else .er
  | .tryc i j k e, ρ, s => if ρ.all notOw = true then match ev e ρ s with
    | .ok x s => onO (stow false x) fun v => onO (put ρ i v) fun ρ' => .nx ρ' s
    | .ex x s => if (excNames.contains x && decide (j < ρ.length) && decide (k < ρ.length) && decide (j ≠ k)) = true then .nx ((List.replicate ρ.length .no).set j (.va (.exn x))) s else .er
    | .er => .er
    else .er
  | .asgx i it tg elt vs, ρ, s => (evX it tg elt vs ρ s).ob fun x s => onO (stow false x) fun v => onO (put ρ i v) fun ρ' => .nx ρ' s
def runs {S : Type} : CSs S → List SV → S → Out S
  | .nil, ρ, s => .nx ρ s
  | .cons c cs, ρ, s => (run c ρ s).sq (runs cs)
end
def fnR {S : Type} (n : Nat) (body : CSs S) : Sem S := fun ds s => match runs body (ds.map SV.va ++ List.replicate (n - ds.length) .no) s with
  | .nx _ s => .ok .non s
  | .rt d s => .ok d s
  | .ex x s => .ex x s
  | .er => .er

def swB (sc : Scope) (y : Str) (py : Pos) (e : Expr) : Bool := match e with
  | .ListComp _ _ scope pos => decide (sc.names.lookup y = some .local) && (py.line == pos.line) && !(scope.names.any fun (n, k) => n == y && (k == .local || k == .cell))
  | _ => false
def locB (sc : Scope) (x : Str) : Bool := match sc.names.lookup x with | some .local => true | some .cell => true | _ => false
def isLc : Expr → Bool
  | .ListComp _ _ _ _ => true
  | _ => false
def noSC : Expr → Bool
  | .SetComp _ _ _ _ => false
  | .DictComp _ _ _ _ _ => false
  | _ => true
def noSwap (sc : Scope) (ts : List Expr) : Expr → Bool
  | .Tuple vs _ _ => vs.all (foldedForSure 8) || ts.any fun | .Name x _ => !(decide (sc.names.lookup x = some .local)) | _ => true
  | _ => true
def swapB (sc : Scope) (x y : Str) (px py : Pos) (a b : Expr) : Bool :=
  decide (sc.names.lookup x = some .local) && decide (sc.names.lookup y = some .local) && (py.line == px.line) && !(x == y) && notStar a && notStar b && !([a, b].all (foldedForSure 8)) && !([a, b].all (constantsAlone 8))
mutual
def chkS {S : Type} (N : List Str) (sc : Scope) : CS S → Stmt → Bool
  | .asg _ i e, st => match st with
    | .Assign [.Name x px] e' _ => (N[i]? == some x) && locB sc x && noSC e' && chkE N sc e e' && (!(isLc e') || swB sc x px e' || !(decide (sc.names.lookup x = some .local)))
    | _ => false
  | .asgT tg e, st => match st with
    | .Assign [.Tuple ts k p] e' _ => chkT N sc (fun _ => true) tg (.Tuple ts k p) && noSC e' && notComp e' && noSwap sc ts e' && chkE N sc e e'
    | _ => false
  | .asgU tg e, st => match st with
    | .Assign [.Tuple ts k p] e' _ => chkT N sc (fun _ => true) tg (.Tuple ts k p) && noSC e' && notComp e' && noSwap sc ts e' && chkE N sc e e'
    | _ => false
  | .par _ _ i j a b, st => match st with
    | .Assign [.Tuple [.Name x px, .Name y py] _ _] (.Tuple [a', b'] _ _) _ => (N[i]? == some x) && (N[j]? == some y) && swapB sc x y px py a' b' && chkE N sc a a' && chkE N sc b b'
    | _ => false
  | .ret e, st => match st with
    | .Return (some e') _ => chkE N sc e e'
    | _ => false
  | .retN, st => match st with
    | .Return none _ => true
    | _ => false
  | .expr e, st => match st with
    | .Expr e' _ => notComp e' && chkE N sc e e'
    | _ => false
  | .never, _ => true
  | .ife t a b, st => match st with
    | .If t' a' b' _ => tstOk t' && chkE N sc t t' && chkSs N sc a a' && chkSs N sc b b'
    | _ => false
  | .forr tg it body, st => match st with
    | .For tg' it' body' [] _ => chkT N sc (fun _ => true) tg tg' && notSet it' && chkI N sc it it' tg' && chkSs N sc body body'
    | _ => false
  | .whl t body _, st => match st with
    | .While t' body' [] _ => tstOk t' && chkE N sc t t' && chkSs N sc body body'
    | _ => false
  | .app i e, st => match st with
    | .Expr (.Call (.Attribute (.Name x p) m apos) [e'] [] cpos) _ => (N[i]? == some x) && visB sc x && (m == ("append" : Str)) && notStar e' && (apos.endLine == cpos.line) && chkE N sc e e'
    | _ => false
  | .ext i e, st => match st with
    | .Expr (.Call (.Attribute (.Name x p) m apos) [e'] [] cpos) _ => (N[i]? == some x) && visB sc x && (m == ("extend" : Str)) && notStar e' && (apos.endLine == cpos.line) && chkE N sc e e'
    | _ => false
  | .rem i e, st => match st with
    | .Expr (.Call (.Attribute (.Name x p) m apos) [e'] [] cpos) _ => (N[i]? == some x) && visB sc x && (m == ("remove" : Str)) && notStar e' && (apos.endLine == cpos.line) && chkE N sc e e'
    | _ => false
  | .seti i k e, st => match st with
    | .Assign [.Subscript (.Name x _) k' _] e' _ => (N[i]? == some x) && visB sc x && notSlice k' && notComp e' && chkE N sc k k' && chkE N sc e e'
    | _ => false
  | .frz _ c, st => chkS N sc c st
  | .rse x, st => match st with
    | .Raise (some (.Call (.Name y _) [.Constant (.str _) _ _] [] _)) none _ => (y == x) && glB sc y && excNames.contains x
    | _ => false
  | .tryc i j k e, st => match st with
    | .Try [.Assign [.Name x px] e' _] [.ExceptHandler (some (.Name m _)) (some n) [.Assign [.Name y py] (.Name n' _) _] _] [] [] _ =>
      (N[i]? == some x) && locB sc x && noSC e' && !(isLc e') && chkE N sc e e' && (m == ("MeasureError" : Str)) && glB sc m && (N[k]? == some n) && decide (sc.names.lookup n = some .local) && (N[j]? == some y) && locB sc y && (n' == n) && visB sc n
    | _ => false
  | .asgx i it tg elt vs, st => match st with
    | .Assign [.Name x px] (.ListComp elt' [⟨tg', iter', [], 0⟩] scope p) _ => (N[i]? == some x) && swB sc x px (.ListComp elt' [⟨tg', iter', [], 0⟩] scope p) &&
      chkI N sc it iter' tg' && notSet iter' && blkC N sc scope (vs.map fun i => (N.getD i "", i)) && (slots tg).all (fun i => vs.contains i) &&
      chkT N (relS scope sc) (fun x => scope.names.lookup x == some .cell) tg tg' && chkE N (relS scope sc) elt elt'
    | _ => false
def chkSs {S : Type} (N : List Str) (sc : Scope) : CSs S → List Stmt → Bool
  | .nil, l => match l with
    | [] => true
    | _ => false
  | .cons c cs, l => match l with
    | st :: sts => chkS N sc c st && chkSs N sc cs sts
    | _ => false
end
mutual
def needS {S : Type} (P : Str → Nat → Sem S → Prop) (G : Str → D → Prop) : CS S → Prop
  | .asg _ _ e => needE P G e
  | .asgT _ e => needE P G e
  | .asgU _ e => needE P G e
  | .par _ _ _ _ a b => needE P G a ∧ needE P G b
  | .ret e => needE P G e
  | .retN => True
  | .expr e => needE P G e
  | .never => True
  | .ife t a b => needE P G t ∧ needSs P G a ∧ needSs P G b
  | .forr _ it b => needI P G it ∧ needSs P G b
  | .whl t b _ => needE P G t ∧ needSs P G b
  | .app _ e => needE P G e
  | .ext _ e => needE P G e
  | .rem _ e => needE P G e
  | .seti _ k e => needE P G k ∧ needE P G e
  | .frz _ c => needS P G c
  | .rse x => G x d_EXC
  | .tryc _ _ _ e => G "EXC" d_EXC ∧ needE P G e
  | .asgx _ it _ elt _ => needI P G it ∧ needE P G elt
def needSs {S : Type} (P : Str → Nat → Sem S → Prop) (G : Str → D → Prop) : CSs S → Prop
  | .nil => True
  | .cons c cs => needS P G c ∧ needSs P G cs
end
section
variable {Y : Sys} (K : PySem.W.Frag) (mg : Str → Option Value) (E : XK)
abbrev WofE : WX := fun cls d _ H => E cls d H
def PostS (c0 : Cf Y) (F0 : Hp) (D : Ends) : Out Y.S → Prop
  | .nx ρ' s' => ∀ σ' (c' : Cf Y), c'.s = s' → Step c0 c' → Sub F0 c'.F → Ok c' → Rel K c0.H c' σ' ρ' → D.nx σ' c'.H
  | .rt d s' => ∀ v (c' : Cf Y), c'.s = s' → Step c0 c' → Ok c' → Rep K c'.F v d → D.rt v c'.H
  | .ex x s' => ∀ C (c' : Cf Y), mg x = some (.ref C) → c'.s = s' → Step c0 c' → Ok c' → E (.ref C) none c'.H
  | .er => False
def tS (r : List SV → Y.S → Out Y.S) : TS := fun D σ H => ∃ (c0 : Cf Y) (F0 : Hp) (c : Cf Y) (ρ : List SV), c.H = H ∧ Step c0 c ∧ Sub F0 c.F ∧ Ok c ∧ Rel K c0.H c σ ρ ∧ PostS K mg E c0 F0 D (r ρ c.s)
end
theorem _root_.L2.PS.weak {X : Cx} {e : Stmt} {t t' : TS} (h : PS X e t) (k : ∀ D σ H, t' D σ H → t D σ H) : PS X e t' := ⟨fun pins s σ H D I q => h.run pins s σ H D I (k D σ H q)⟩
theorem _root_.L2.PSs.weak {X : Cx} {e : List Stmt} {t t' : TS} (h : PSs X e t) (k : ∀ D σ H, t' D σ H → t D σ H) : PSs X e t' := ⟨fun pins s σ H D I q => h.run pins s σ H D I (k D σ H q)⟩
structure SCxt (X : Cx) (E : XK) (n : Nat) (N : List Str) (sc : Scope) : Prop extends Cxt X (WofE E) n N sc where
  po : PassesOwn (model X.prog X.w) X.A X.env X.xe
  fn : X.fn = fun _ => true
  kd : sc.kind = .function
  stk : X.stack = X.env :: X.outer
  fr : X.env.frame = some X.env.locals
  noex : X.ex = []
section
variable {Y : Sys} {K : PySem.W.Frag} {mg : Str → Option Value} {E : XK} {α β : Type} {σ : L2.St} {c0 c : Cf Y} {F0 : Hp} {ρ : List SV} {D : Ends}
theorem tR.ob {J : Cf Y → β → Cf Y → α → Prop} {f : List SV → Y.S → Res Y.S α} {R : α → Y.S → Out Y.S} {Qa : β → Hp → Prop}
    (t0 : Step c0 c) (ok : Ok c) (rel : Rel K c0.H c σ ρ) (h : PostS K mg E c0 F0 D ((f ρ c.s).ob R))
    (k : ∀ b (c' : Cf Y) a, Step c c' → Ok c' → Rel K c0.H c' σ ρ → J c b c' a → PostS K mg E c0 F0 D (R a c'.s) → Qa b c'.H) : tR K mg (WofE E) J f σ c.H Qa := by
  refine ⟨c, c0.H, ρ, rfl, ok, rel, ?_⟩
  cases e : f ρ c.s with
  | ok a s' =>
    rw [e] at h
    intro b c' es t ok' j
    subst es
    exact k b c' a t ok' (rel.step t) j h
  | ex x s' =>
    rw [e] at h
    intro C c' e1 e2 t ok'
    exact h C c' e1 e2 (t0.trans ok t) ok'
  | er => rw [e] at h; exact h
theorem PostS.onO {γ : Type} {o : Option γ} {f : γ → Out Y.S} (h : PostS K mg E c0 F0 D (Mf.onO o f)) : ∃ a, o = some a ∧ PostS K mg E c0 F0 D (f a) := by
  cases o with
  | none => exact h.elim
  | some a => exact ⟨a, rfl, h⟩
theorem PostS.dat {x : K3 × Mf.D} {s : Y.S} {f : Mf.D → Y.S → Out Y.S} (h : PostS K mg E c0 F0 D ((Mf.dat x s).ob f)) : x.1 ≠ .o ∧ PostS K mg E c0 F0 D (f x.2 s) := by
  obtain ⟨k, d⟩ := x
  cases k with
  | v => exact ⟨fun z => (nomatch z), h⟩
  | t => exact ⟨fun z => (nomatch z), h⟩
  | o => exact h.elim
theorem Rel.setO {H0 : Hp} (r : Rel K H0 c σ ρ) {i : Nat} {p : Addr} {d : Mf.D} (o : Own K c p d) (h0 : H0 p = none) (hi : i < ρ.length) (hne : ∀ (m : Nat) (e : Mf.D), m ≠ i → ρ[m]? = some (SV.ow e) → σ[m]? ≠ some (some (V.ref p))) : Rel K H0 c (σ.set i (some (.ref p))) (ρ.set i (.ow d)) where
  len := by rw [List.length_set, List.length_set]; exact r.len
  va := fun j e hj => by
    by_cases q : i = j
    · subst q
      rw [List.getElem?_set_self hi] at hj
      cases hj
    · rw [List.getElem?_set_ne q] at hj
      obtain ⟨v', h1, h2⟩ := r.va j e hj
      exact ⟨v', by rw [List.getElem?_set_ne q]; exact h1, h2⟩
  ow := fun j e hj => by
    by_cases q : i = j
    · subst q
      rw [List.getElem?_set_self hi] at hj
      cases hj
      exact ⟨p, List.getElem?_set_self (by rw [← r.len]; exact hi), o, h0⟩
    · rw [List.getElem?_set_ne q] at hj
      obtain ⟨v', h1, h2⟩ := r.ow j e hj
      exact ⟨v', by rw [List.getElem?_set_ne q]; exact h1, h2⟩
  ap := fun j k e e' p' hjk hj hk hp => by
    by_cases q : i = j
    · subst q
      rw [List.getElem?_set_self (by rw [← r.len]; exact hi)] at hp
      cases hp
      have hjk' : k ≠ i := fun z => hjk z.symm
      rw [List.getElem?_set_ne hjk] at hk ⊢
      exact hne k e' hjk' hk
    · rw [List.getElem?_set_ne q] at hj hp
      by_cases q' : i = k
      · subst q'
        rw [List.getElem?_set_self (by rw [← r.len]; exact hi)]
        intro z
        cases z
        exact hne j e (fun z => q z.symm) hj hp
      · rw [List.getElem?_set_ne q'] at hk ⊢
        exact r.ap j k e e' p' hjk hj hk hp
def Hold (K : PySem.W.Frag) (cs c : Cf Y) : Bool → V → Mf.D → Prop
  | false, v, d => Rep K c.F v d
  | true, v, d => ∃ p, v = .ref p ∧ Own K c p d ∧ cs.H p = none
theorem Hold.step {cs c c1 : Cf Y} {own : Bool} {v : V} {d : Mf.D} (h : Hold K cs c own v d) (t : Step c c1) : Hold K cs c1 own v d := by
  cases own with
  | false => exact Rep.mono t.f h
  | true => obtain ⟨p, e, o, z⟩ := h; exact ⟨p, e, o.step t, z⟩
theorem hold_of {c1 : Cf Y} {own : Bool} {x : K3 × Mf.D} {v : V} {u : SV} (hs : stow own x = some u) (t1 : Step c c1) (ok1 : Ok c1) (j : Is K c.H c1 x.1 v x.2) :
    u = (if own = true then .ow x.2 else .va x.2) ∧ ∃ c2 : Cf Y, c2.s = c1.s ∧ c2.H = c1.H ∧ Step c c2 ∧ Ok c2 ∧ Hold K c c2 own v x.2 := by
  obtain ⟨k, d⟩ := x
  have j : Is K c.H c1 k v d := j
  cases own with
  | false =>
    have hk : k ≠ .o ∧ u = .va d := by
      cases k <;> cases hs
      · exact ⟨fun z => (nomatch z), rfl⟩
      · exact ⟨fun z => (nomatch z), rfl⟩
    obtain ⟨c2, e1, e2, t2, ok2, r⟩ := Is.data j hk.1 t1 ok1
    exact ⟨by rw [if_neg Bool.false_ne_true]; exact hk.2, c2, e1, e2, t2, ok2, r⟩
  | true =>
    have hk : k = .t ∧ u = .ow d := by
      cases k <;> cases hs
      exact ⟨rfl, rfl⟩
    obtain ⟨rfl, rfl⟩ := hk
    exact ⟨by rw [if_pos rfl], c1, rfl, rfl, t1, ok1, j⟩
theorem Rel.hold {H0 : Hp} {cs : Cf Y} {own : Bool} {i : Nat} {v : V} {d : Mf.D} {ρ' : List SV} (r : Rel K H0 c σ ρ) (h : Hold K cs c own v d) (ex : ∀ (m : Nat) (e : Mf.D) (q : Addr), ρ[m]? = some (SV.ow e) → σ[m]? = some (some (V.ref q)) → cs.H q ≠ none) (h0 : ∀ q, cs.H q = none → H0 q = none)
    (hp : put ρ i (if own = true then .ow d else .va d) = some ρ') : Rel K H0 c (σ.set i (some v)) ρ' := by
  unfold put at hp
  split at hp
  · rename_i hi
    cases hp
    cases own with
    | false => exact r.set h hi
    | true =>
      obtain ⟨p, rfl, o, z⟩ := h
      exact r.setO o (h0 p z) hi fun m e hm he hp => ex m e p he hp z
  · cases hp
theorem Rel.ex {H0 : Hp} (r : Rel K H0 c σ ρ) (m : Nat) (e : Mf.D) (q : Addr) (h : ρ[m]? = some (SV.ow e)) (hq : σ[m]? = some (some (V.ref q))) : c.H q ≠ none := by
  obtain ⟨p', e1, o', _⟩ := r.ow m e h
  rw [hq] at e1
  cases e1
  exact o'.obj
theorem Rel.mut {H0 : Hp} (r : Rel K H0 c σ ρ) {i : Nat} {p : Addr} {d d' : Mf.D} {o : HO} (hi : ρ[i]? = some (.ow d)) (hσ : σ[i]? = some (some (.ref p))) (ho : Own K (⟨c.F, upd c.H p o, c.s, c.g⟩ : Cf Y) p d') : Rel K H0 (⟨c.F, upd c.H p o, c.s, c.g⟩ : Cf Y) σ (ρ.set i (.ow d')) where
  len := by rw [List.length_set]; exact r.len
  va := fun j e hj => by
    by_cases q : i = j
    · subst q
      rw [List.getElem?_set_self (List.getElem?_eq_some_iff.mp hi).1] at hj
      cases hj
    · rw [List.getElem?_set_ne q] at hj
      exact r.va j e hj
  ow := fun j e hj => by
    by_cases q : i = j
    · subst q
      rw [List.getElem?_set_self (List.getElem?_eq_some_iff.mp hi).1] at hj
      cases hj
      obtain ⟨p', e1, _, z⟩ := r.ow i d hi
      rw [hσ] at e1
      cases e1
      exact ⟨p, hσ, ho, z⟩
    · rw [List.getElem?_set_ne q] at hj
      obtain ⟨p', e1, o', z⟩ := r.ow j e hj
      refine ⟨p', e1, o'.other (fun z => ?_) o, z⟩
      subst z
      exact r.ap i j d e p' q hi hj hσ e1
  ap := fun j k e e' p' hjk hj hk hp => by
    have tr : ∀ {m : Nat} {e : Mf.D}, (ρ.set i (.ow d'))[m]? = some (SV.ow e) → ∃ e', ρ[m]? = some (SV.ow e') := fun {m e} h => by
      by_cases q : i = m
      · subst q
        exact ⟨d, hi⟩
      · rw [List.getElem?_set_ne q] at h
        exact ⟨e, h⟩
    obtain ⟨e1, h1⟩ := tr hj
    obtain ⟨e2, h2⟩ := tr hk
    exact r.ap j k e1 e2 p' hjk h1 h2 hp
theorem Rel.frz {H0 : Hp} (r : Rel K H0 c σ ρ) (ok : Ok c) (t0 : Step c0 c) (e0 : H0 = c0.H) {i : Nat} {d : Mf.D} (hi : ρ[i]? = some (.ow d)) : ∃ c2 : Cf Y, c2.s = c.s ∧ c2.H = c.H ∧ Step c0 c2 ∧ Ok c2 ∧ Sub c.F c2.F ∧ Rel K H0 c2 σ (ρ.set i (.va d)) := by
  obtain ⟨p, hσ, o, z⟩ := r.ow i d hi
  obtain ⟨ob, hp, ok2, rp, sb⟩ := o.frz ok
  have hl := (List.getElem?_eq_some_iff.mp hi).1
  refine ⟨⟨upd c.F p ob, c.H, c.s, c.g⟩, rfl, rfl, t0.frz o.2.1 (by rw [← e0]; exact z) ob, ok2, sb, ?_⟩
  exact {
    len := by rw [List.length_set]; exact r.len
    va := fun j e hj => by
      by_cases q : i = j
      · subst q
        rw [List.getElem?_set_self hl] at hj
        cases hj
        exact ⟨.ref p, hσ, rp⟩
      · rw [List.getElem?_set_ne q] at hj
        obtain ⟨v, h1, h2⟩ := r.va j e hj
        exact ⟨v, h1, h2.mono sb⟩
    ow := fun j e hj => by
      by_cases q : i = j
      · subst q
        rw [List.getElem?_set_self hl] at hj
        cases hj
      · rw [List.getElem?_set_ne q] at hj
        obtain ⟨p', h1, h2, h3⟩ := r.ow j e hj
        exact ⟨p', h1, h2.frzo (fun z => r.ap i j d e p q hi hj hσ (by rw [h1, z])) o.2.1, h3⟩
    ap := fun j k e e' p' hjk hj hk hp => by
      have tr : ∀ {m : Nat} {e : Mf.D}, (ρ.set i (.va d))[m]? = some (SV.ow e) → ρ[m]? = some (SV.ow e) := fun {m e} h => by
        by_cases q : i = m
        · subst q
          rw [List.getElem?_set_self hl] at h
          cases h
        · rw [List.getElem?_set_ne q] at h
          exact h
      exact r.ap j k e e' p' hjk (tr hj) (tr hk) hp }
end
end Mf
set_option Elab.async false
set_option linter.all false
set_option maxRecDepth 100000
set_option maxHeartbeats 2000000
namespace Mf
open PySem L2

section
variable {X : Cx} {Y : Sys} {E : XK} {n : Nat} {N : List Str} {sc : Scope} {pos : Pos} {a' b' e' t' : Expr} {a b e t : CE Y.S}
theorem ss_ret (he : PE X e' (tE X.K X.mg (WofE E) e)) : PS X (.Return (some e') pos) (tS (Y := Y) X.K X.mg E (run (.ret e))) := by
  refine (ps_ret he).weak fun D σ H h => ?_
  obtain ⟨c0, F0, c, ρ, rfl, t0, sb, ok, rel, p⟩ := h
  have p : PostS X.K X.mg E c0 F0 D ((ev e ρ c.s).ob fun x s => (dat x s).ob fun d s => .rt d s) := p
  refine tR.ob t0 ok rel p fun v c1 x t1 ok1 rel1 j1 p1 => ?_
  obtain ⟨hk, p1⟩ := p1.dat
  obtain ⟨c2, e1, e2, t2, ok2, r⟩ := Is.data j1 hk t1 ok1
  rw [← e2]
  exact p1 v c2 e1 (t0.trans ok t2) ok2 r
theorem ss_retN : PS X (.Return none pos) (tS (Y := Y) X.K X.mg E (run .retN)) := by
  refine ps_retN.weak fun D σ H h => ?_
  obtain ⟨c0, F0, c, ρ, rfl, t0, sb, ok, rel, p⟩ := h
  have p : PostS X.K X.mg E c0 F0 D (.rt .non c.s) := p
  exact p .non c rfl t0 ok .non
theorem swNone {line : Nat} {env : Env} (h : notComp e' = true) : swapsWith e' none line env = pure false := by
  cases e' <;> first | rfl | cases h
theorem ss_expr (hc : notComp e' = true) (he : PE X e' (tE X.K X.mg (WofE E) e)) : PS X (.Expr e' pos) (tS (Y := Y) X.K X.mg E (run (.expr e))) := by
  refine (ps_expr he (swNone hc)).weak fun D σ H h => ?_
  obtain ⟨c0, F0, c, ρ, rfl, t0, sb, ok, rel, p⟩ := h
  have p : PostS X.K X.mg E c0 F0 D ((ev e ρ c.s).ob fun _ s => .nx ρ s) := p
  refine tR.ob t0 ok rel p fun v c1 x t1 ok1 rel1 j1 p1 => ?_
  exact p1 σ c1 rfl (t0.trans ok t1) (sb.trans t1.f) ok1 rel1
theorem ss_never {st : Stmt} : PS X st (tS (Y := Y) X.K X.mg E (run .never)) := by
  refine ps_never.weak fun D σ H h => ?_
  obtain ⟨c0, F0, c, ρ, rfl, t0, sb, ok, rel, p⟩ := h
  exact p
theorem asg_use {own : Bool} {i : Nat} {D : Ends} {σ : L2.St} {H : Hp} (h : tS (Y := Y) X.K X.mg E (run (.asg own i e)) D σ H) : tAsg (tE X.K X.mg (WofE E) e) (gName i) D σ H := by
  obtain ⟨c0, F0, c, ρ, rfl, t0, sb, ok, rel, p⟩ := h
  have p : PostS X.K X.mg E c0 F0 D ((ev e ρ c.s).ob fun x s => onO (stow own x) fun v => onO (put ρ i v) fun ρ' => .nx ρ' s) := p
  refine tR.ob t0 ok rel p fun v c1 x t1 ok1 rel1 j1 p1 => ?_
  obtain ⟨u, hu, p1⟩ := p1.onO
  obtain ⟨ρ', hp, p1⟩ := p1.onO
  obtain ⟨eu, c2, e1, e2, t2, ok2, hd⟩ := hold_of hu t1 ok1 j1
  rw [eu] at hp
  rw [← e2]
  exact p1 _ c2 e1 (t0.trans ok t2) (sb.trans t2.f) ok2 ((rel.step t2).hold hd (fun m e q h1 h2 => rel.ex m e q h1 h2) (fun q z => t0.back ok z) hp)
theorem loc_ok {x : Str} (C : SCxt X E n N sc) (h : locB sc x = true) : L2.Loc X.env.scope x := by
  unfold locB at h
  unfold L2.Loc
  rw [C.hs]
  split at h
  · exact .inl (by assumption)
  · exact .inr (by assumption)
  · cases h
theorem sw_lc {elt : Expr} {gs : List Comprehension} {scope : Scope} {p1 py : Pos} {y : Str} {line : Nat} (C : SCxt X E n N sc) (h : swB sc y py (.ListComp elt gs scope p1) = true) : swapsWith (.ListComp elt gs scope p1) (some (.Name y py)) line X.env = pure true := by
  unfold swB at h
  simp only [Bool.and_eq_true, decide_eq_true_eq] at h
  exact sw_true (by rw [C.hs]; exact C.kd) (by rw [C.hs]; exact h.1.1) h.1.2 (by simpa using h.2)
theorem sw_no {y : Str} {py : Pos} {line : Nat} (C : SCxt X E n N sc) (h1 : noSC e' = true) (h2 : (!(isLc e') || !(decide (sc.names.lookup y = some .local))) = true) : swapsWith e' (some (.Name y py)) line X.env = pure false := by
  cases e' <;> first | rfl | cases h1 | skip
  have h2 : sc.names.lookup y ≠ some .local := by simpa [isLc] using h2
  have hk : X.env.kindOf y ≠ some .local := by
    unfold Env.kindOf
    rw [C.hs]
    exact h2
  have hk2 : (X.env.kindOf y == some .local) = false := beq_eq_false_iff_ne.mpr hk
  unfold swapsWith
  simp only [hk2, Bool.and_false, Bool.false_and]
theorem ss_asg {own : Bool} {i : Nat} {x : Str} {px : Pos} (C : SCxt X E n N sc) (hi : (N[i]? == some x) = true) (hl : locB sc x = true) (h1 : noSC e' = true) (h2 : (!(isLc e') || !(decide (sc.names.lookup x = some .local))) = true) (he : PE X e' (tE X.K X.mg (WofE E) e)) : PS X (.Assign [.Name x px] e' pos) (tS (Y := Y) X.K X.mg E (run (.asg own i e))) :=
  (ps_set (i := i) (by rw [C.hN]; exact C.nd) (by rw [C.hN]; exact beq_iff_eq.mp hi) (loc_ok C hl) he (sw_no C h1 h2) (.inl (by rw [C.fn]))).weak fun _ _ _ h => asg_use h
theorem filterMap_lt {α β : Type} {f : α → Option β} : ∀ {l : List α}, (∃ t ∈ l, f t = none) → (l.filterMap f).length < l.length
  | [], h => by obtain ⟨t, h, _⟩ := h; cases h
  | x :: l, h => by
    rw [List.filterMap_cons]
    cases e : f x with
    | none => exact Nat.lt_succ_of_le (List.length_filterMap_le f l)
    | some y =>
      obtain ⟨t, ht, hn⟩ := h
      rcases List.mem_cons.mp ht with z | z
      · rw [z, e] at hn; cases hn
      · exact Nat.succ_lt_succ (filterMap_lt ⟨t, z, hn⟩)
theorem noSwap_ok {ts : List Expr} {k : Nat} {p : Pos} (C : SCxt X E n N sc) (h : noSwap sc ts e' = true) : swappedStores [.Tuple ts k p] e' X.env = pure none := by
  cases e' <;> first | rfl | skip
  rename_i vs k2 p2
  have h := Bool.or_eq_true_iff.mp h
  unfold swappedStores
  dsimp only
  split
  · rfl
  split
  · rfl
  split
  · rfl
  rename_i h3
  rcases h with h | h
  · rw [if_pos h]
  · exfalso
    apply h3
    refine Bool.or_eq_true_iff.mpr (.inl ?_)
    rw [bne_iff_ne]
    intro hl
    obtain ⟨t, ht, hn⟩ := List.any_eq_true.mp h
    refine absurd hl (Nat.ne_of_lt (filterMap_lt ⟨t, ht, ?_⟩))
    cases t <;> first | rfl | skip
    rename_i x px
    have hk : X.env.kindOf x ≠ some .local := by
      unfold Env.kindOf
      rw [C.hs]
      simpa using hn
    have hk2 : (X.env.kindOf x == some .local) = false := beq_eq_false_iff_ne.mpr hk
    simp only [hk2, Bool.false_and, Bool.false_eq_true, if_false]
theorem ss_asgT {tg : Tg} {ts : List Expr} {k : Nat} {p : Pos} (C : SCxt X E n N sc) (hT : chkT N sc (fun _ => true) tg (.Tuple ts k p) = true) (h1 : notComp e' = true) (h2 : noSwap sc ts e' = true) (he : PE X e' (tE X.K X.mg (WofE E) e)) : PS X (.Assign [.Tuple ts k p] e' pos) (tS (Y := Y) X.K X.mg E (run (.asgT tg e))) := by
  have hs : swapsWithSole [.Tuple ts k p] e' pos.line X.env = pure false := by
    cases e' <;> first | rfl | cases h1
  have hw : swappedStores [.Tuple ts k p] e' X.env = pure none := noSwap_ok C h2
  refine (ps_asg he (pg_ok C.hN C.hs C.nd C.calm C.fn hT) hs hw rfl).weak fun D σ H h => ?_
  obtain ⟨c0, F0, c, ρ, rfl, t0, sb, ok, rel, p⟩ := h
  have p : PostS X.K X.mg E c0 F0 D ((ev e ρ c.s).ob fun x s => (dat x s).ob fun d s => onO (asgT tg d ρ) fun ρ' => .nx ρ' s) := p
  refine tR.ob t0 ok rel p fun v c1 x t1 ok1 rel1 j1 p1 => ?_
  obtain ⟨hk, p1⟩ := p1.dat
  obtain ⟨ρ', ha, p1⟩ := p1.onO
  obtain ⟨c2, e1, e2, t2, ok2, r⟩ := Is.data j1 hk t1 ok1
  rw [← e2]
  exact gT_use ok2 ha (rel.step t2) r fun σ' r' _ _ => p1 σ' c2 e1 (t0.trans ok t2) (sb.trans t2.f) ok2 r'
theorem ss_asgU {tg : Tg} {ts : List Expr} {k : Nat} {p : Pos} (C : SCxt X E n N sc) (hT : chkT N sc (fun _ => true) tg (.Tuple ts k p) = true) (h1 : notComp e' = true) (h2 : noSwap sc ts e' = true) (he : PE X e' (tE X.K X.mg (WofE E) e)) : PS X (.Assign [.Tuple ts k p] e' pos) (tS (Y := Y) X.K X.mg E (run (.asgU tg e))) := by
  have hs : swapsWithSole [.Tuple ts k p] e' pos.line X.env = pure false := by
    cases e' <;> first | rfl | cases h1
  have hw : swappedStores [.Tuple ts k p] e' X.env = pure none := noSwap_ok C h2
  unfold chkT at hT
  cases tg with
  | nm i => cases hT
  | nil => cases hT
  | cons t' r' =>
    unfold chkTs at hT
    simp only [Bool.and_eq_true] at hT
    obtain ⟨e1, e2⟩ := each_ok (env := X.env) hT.1
    have pg : PG X (.Tuple ts k p) (gUnl X.K (lenTg (.cons t' r')) (gL X.K (.cons t' r'))) := pg_unl C.calm (pgs_ok C.hN C.hs C.nd C.calm C.fn hT.1) e1 (by
      rw [List.findIdx?_eq_none_iff]
      exact fun p hp => by simpa using e2 p hp)
    refine (ps_asg he pg hs hw rfl).weak fun D σ H h => ?_
    obtain ⟨c0, F0, c, ρ, rfl, t0, sb, ok, rel, p⟩ := h
    have p : PostS X.K X.mg E c0 F0 D ((ev e ρ c.s).ob fun x s => match x.2 with | .lst ds => onO (asgL (.cons t' r') ds ρ) fun ρ' => .nx ρ' s | _ => .er) := p
    refine tR.ob t0 ok rel p fun v c1 x t1 ok1 rel1 j1 p1 => ?_
    obtain ⟨k1, d1⟩ := x
    dsimp only at p1
    split at p1
    · rename_i ds
      obtain ⟨ρ', ha, p1⟩ := p1.onO
      have j1 : Is X.K c.H c1 k1 v (.lst ds) := j1
      obtain ⟨pp, vs, rfl, hq, rs⟩ := j1.lst ok1
      exact ⟨pp, vs, rfl, .inl (.inl hq), by rw [rs.length]; exact asgL_len ha, gL_use ok1 ha rel1 rs fun σ' r' _ _ => p1 σ' c1 rfl (t0.trans ok t1) (sb.trans t1.f) ok1 r'⟩
    · exact p1.elim
theorem swap_ok {x y : Str} {px py pt p2 : Pos} {kt k2 : Nat} (C : SCxt X E n N sc) (h : swapB sc x y px py a' b' = true) : swappedStores [.Tuple [.Name x px, .Name y py] kt pt] (.Tuple [a', b'] k2 p2) X.env = pure (some [x, y]) := by
  unfold swapB at h
  simp only [Bool.and_eq_true, decide_eq_true_eq, Bool.not_eq_true'] at h
  obtain ⟨⟨⟨⟨⟨⟨⟨h1, h2⟩, h3⟩, h4⟩, h5⟩, h6⟩, h7⟩, h8⟩ := h
  have kx : X.env.kindOf x = some .local := by unfold Env.kindOf; rw [C.hs]; exact h1
  have ky : X.env.kindOf y = some .local := by unfold Env.kindOf; rw [C.hs]; exact h2
  have hb : X.env.blockKind = .function := by
    have : X.env.scope.kind = .function := by rw [C.hs]; exact C.kd
    unfold Env.blockKind
    rw [this]
    rfl
  have hst : ([a', b'].any fun | .Starred .. => true | _ => false) = false := by
    have s1 : ∀ {q : Expr}, notStar q = true → (match q with | .Starred .. => true | _ => false) = false := fun {q} hq => by cases q <;> first | rfl | cases hq
    simp only [List.any_cons, List.any_nil, s1 h5, s1 h6, Bool.or_false]
  have hne : (x == y) = false := h4
  have hxy : ([x, y] : List Str).eraseDups.length = 2 := by
    simp [List.eraseDups_cons, hne, bne, show (y == x) = false from by rw [beq_eq_false_iff_ne] at hne ⊢; exact fun z => hne z.symm]
  have hl : (py.line == px.line) = true := h3
  unfold swappedStores
  simp only [List.length_cons, List.length_nil, hb, kx, ky, hst, List.head?_cons, Option.map_some, Option.getD_some, Expr.pos, List.filterMap_cons, List.filterMap_nil, hl, h7, h8, hxy, beq_self_eq_true, Bool.and_self, Bool.and_true, if_true]
  refine Eq.trans (if_neg (by decide)) ?_
  refine Eq.trans (if_neg (by rw [Bool.not_eq_true]; exact hst)) ?_
  rfl
end
end Mf
set_option Elab.async false
set_option linter.all false
set_option maxRecDepth 100000
set_option maxHeartbeats 2000000
namespace Mf
open PySem L2

section
variable {X : Cx} {Y : Sys} {E : XK} {n : Nat} {N : List Str} {sc : Scope} {pos : Pos} {a' b' e' t' : Expr} {a b e t : CE Y.S}
theorem ss_par {oi oj : Bool} {i j : Nat} {x y : Str} {px py pt p2 : Pos} {kt k2 : Nat} (C : SCxt X E n N sc) (hi : (N[i]? == some x) = true) (hj : (N[j]? == some y) = true) (hsw : swapB sc x y px py a' b' = true)
    (ha : PE X a' (tE X.K X.mg (WofE E) a)) (hb : PE X b' (tE X.K X.mg (WofE E) b)) : PS X (.Assign [.Tuple [.Name x px, .Name y py] kt pt] (.Tuple [a', b'] k2 p2) pos) (tS (Y := Y) X.K X.mg E (run (.par oi oj i j a b))) := by
  have hi := beq_iff_eq.mp hi
  have hj := beq_iff_eq.mp hj
  have sw := hsw
  unfold swapB at hsw
  simp only [Bool.and_eq_true, decide_eq_true_eq, Bool.not_eq_true'] at hsw
  obtain ⟨⟨⟨⟨⟨⟨⟨h1, h2⟩, h3⟩, h4⟩, h5⟩, h6⟩, h7⟩, h8⟩ := hsw
  have hij : i ≠ j := fun z => by
    subst z
    rw [hi] at hj
    cases hj
    rw [beq_self_eq_true] at h4
    cases h4
  refine (ps_par (i := i) (j := j) C.calm (by rw [C.hN]; exact C.nd) (by rw [C.hN]; exact hi) (by rw [C.hN]; exact hj) hij (by rw [C.hs]; exact h1) (by rw [C.hs]; exact h2) (pa_cons ha (pa_cons hb pa_nil (star_cons h6 _ _)) (star_cons h5 _ _)) (swap_ok C sw)).weak fun D σ H h => ?_
  obtain ⟨c0, F0, c, ρ, rfl, t0, sb, ok, rel, p⟩ := h
  have p : PostS X.K X.mg E c0 F0 D ((ev a ρ c.s).ob fun x s => onO (stow oi x) fun u => (ev b ρ s).ob fun y s => onO (stow oj y) fun v => onO (put ρ i u) fun ρ1 => onO (put ρ1 j v) fun ρ2 => .nx ρ2 s) := p
  refine tR.ob t0 ok rel p fun v c1 x t1 ok1 rel1 j1 p1 => ?_
  obtain ⟨u, hu, p1⟩ := p1.onO
  obtain ⟨eu, c2, e1, e2, t2, ok2, hd⟩ := hold_of hu t1 ok1 j1
  rw [← e2]
  rw [← e1] at p1
  have rel2 := rel.step t2
  have t02 := t0.trans ok t2
  refine tR.ob t02 ok2 rel2 p1 fun w c3 y t3 ok3 rel3 j3 p3 => ?_
  obtain ⟨u', hu', p3⟩ := p3.onO
  obtain ⟨ρ1, hp1, p3⟩ := p3.onO
  obtain ⟨ρ2, hp2, p3⟩ := p3.onO
  obtain ⟨eu', c4, e3, e4, t4, ok4, hd'⟩ := hold_of hu' t3 ok3 j3
  rw [eu] at hp1
  rw [eu'] at hp2
  refine ⟨v, w, rfl, ?_⟩
  rw [← e4]
  have hd4 := hd.step t4
  have rA := (rel2.step t4).hold hd4 (fun m e q h1 h2 => rel.ex m e q h1 h2) (fun q z => t0.back ok z) hp1
  refine p3 _ c4 e3 (t02.trans ok2 t4) ((sb.trans t2.f).trans t4.f) ok4 (rA.hold hd' (fun m d q h1 h2 => ?_) (fun q z => t02.back ok2 z) hp2)
  -- every owned slot stood when the second value was made
  unfold put at hp1
  split at hp1
  · rename_i hil
    cases hp1
    by_cases hm : i = m
    · subst hm
      rw [List.getElem?_set_self hil] at h1
      rw [List.getElem?_set_self (by rw [← rel.len]; exact hil)] at h2
      cases oi with
      | false => cases h1
      | true =>
        obtain ⟨q', eq, o, _⟩ := hd
        subst eq
        cases h2
        exact o.obj
    · rw [List.getElem?_set_ne hm] at h1 h2
      exact t2.ne ok2 (rel.ex m d q h1 h2)
  · cases hp1
theorem ss_ife {A B : CSs Y.S} {as bs : List Stmt} (ht : PT X t' (tT X.K X.mg (WofE E) t)) (hA : PSs X as (tS X.K X.mg E (runs A))) (hB : PSs X bs (tS X.K X.mg E (runs B))) : PS X (.If t' as bs pos) (tS (Y := Y) X.K X.mg E (run (.ife t A B))) := by
  refine (ps_if ht hA hB).weak fun D σ H h => ?_
  obtain ⟨c0, F0, c, ρ, rfl, t0, sb, ok, rel, p⟩ := h
  have p : PostS X.K X.mg E c0 F0 D (((ev t ρ c.s).bind tru).ob fun k s => if k then runs A ρ s else runs B ρ s) := p
  refine tR.ob (f := fun ρ s => (ev t ρ s).bind tru) t0 ok rel p fun k c1 x t1 ok1 rel1 j1 p1 => ?_
  have j1 : k = x := j1
  subst j1
  cases k with
  | true => exact iteT ⟨c0, F0, c1, ρ, rfl, t0.trans ok t1, sb.trans t1.f, ok1, rel1, p1⟩
  | false => exact iteF ⟨c0, F0, c1, ρ, rfl, t0.trans ok t1, sb.trans t1.f, ok1, rel1, p1⟩
theorem ss_nil : PSs X [] (tS (Y := Y) X.K X.mg E (runs .nil)) := by
  refine pss_nil.weak fun D σ H h => ?_
  obtain ⟨c0, F0, c, ρ, rfl, t0, sb, ok, rel, p⟩ := h
  have p : PostS X.K X.mg E c0 F0 D (.nx ρ c.s) := p
  exact p σ c rfl t0 sb ok rel
theorem ss_cons {A : CS Y.S} {B : CSs Y.S} {st : Stmt} {sts : List Stmt} (hA : PS X st (tS X.K X.mg E (run A))) (hB : PSs X sts (tS X.K X.mg E (runs B))) : PSs X (st :: sts) (tS (Y := Y) X.K X.mg E (runs (.cons A B))) := by
  refine (pss_cons hA hB).weak fun D σ H h => ?_
  obtain ⟨c0, F0, c, ρ, rfl, t0, sb, ok, rel, p⟩ := h
  have p : PostS X.K X.mg E c0 F0 D ((run A ρ c.s).sq (runs B)) := p
  refine ⟨c0, F0, c, ρ, rfl, t0, sb, ok, rel, ?_⟩
  cases er : run A ρ c.s with
  | nx ρ' s' =>
    rw [er] at p
    intro σ' c' e1 t1 sb1 ok1 rel1
    subst e1
    exact ⟨c0, F0, c', ρ', rfl, t1, sb1, ok1, rel1, p⟩
  | rt d s' => rw [er] at p; exact p
  | ex x s' => rw [er] at p; exact p
  | er => rw [er] at p; exact p
theorem ss_for {tg : Tg} {it : CI Y.S} {body : CSs Y.S} {tg' it' : Expr} {body' : List Stmt} (C : SCxt X E n N sc) (hz : zipI it = true → consT tg = true) (hT : chkT N sc (fun _ => true) tg tg' = true) (hset : notSet it' = true) (hI : PI X tg' it' (tI X.K X.mg (WofE E) true it)) (hB : PSs X body' (tS X.K X.mg E (runs body))) :
    PS X (.For tg' it' body' [] pos) (tS (Y := Y) X.K X.mg E (run (.forr tg it body))) := by
  refine (ps_for C.po C.calm hI (pg_ok C.hN C.hs C.nd C.calm C.fn hT) hB (set_ok hset)).weak fun D σ H h => ?_
  obtain ⟨c0, F0, c, ρ, rfl, t0, sb, ok, rel, p⟩ := h
  have p : PostS X.K X.mg E c0 F0 D ((evI true it ρ c.s).ob fun ds s => forR (fun d ρ s => onO (asgT tg d ρ) fun ρ' => runs body ρ' s) ds ρ s) := p
  refine tR.ob t0 ok rel p fun J c1 ds t1 ok1 rel1 j1 p1 => ?_
  obtain ⟨G, gd, hG⟩ := j1
  have sb1 : Sub F0 c1.F := sb.trans t1.f
  refine ⟨fun i m σ H => m = ds.length - i ∧ i ≤ ds.length ∧ ∃ (cc : Cf Y) (ρ : List SV), cc.H = H ∧ Step c0 cc ∧ Ok cc ∧ Rel X.K c0.H cc σ ρ ∧ Sub c1.F cc.F ∧ PostS X.K X.mg E c0 F0 D (forR (fun d ρ s => onO (asgT tg d ρ) fun ρ' => runs body ρ' s) (ds.drop i) ρ cc.s),
    ⟨ds.length, rfl, Nat.zero_le _, c1, ρ, rfl, t0.trans ok t1, ok1, rel1, Sub.refl _, p1⟩, fun i m σ H hW => ?_⟩
  obtain ⟨rfl, hi, cc, ρ, rfl, tc, okc, relc, sbc, pc⟩ := hW
  have hG' := hG cc (by rw [if_pos rfl]; exact sbc)
  by_cases hlt : i < ds.length
  · have hd : ds[i]? = some ds[i] := List.getElem?_eq_getElem hlt
    have edrop : ds.drop i = ds[i] :: ds.drop (i + 1) := List.drop_eq_getElem_cons hlt
    rw [edrop] at pc
    obtain ⟨go, yl⟩ := (gd cc hG' okc i).2 _ hd
    refine .inr ⟨go, fun σ H => ds.length - (i + 1) = ds.length - (i + 1) ∧ i + 1 ≤ ds.length ∧ ∃ (cc : Cf Y) (ρ : List SV), cc.H = H ∧ Step c0 cc ∧ Ok cc ∧ Rel X.K c0.H cc σ ρ ∧ Sub c1.F cc.F ∧ PostS X.K X.mg E c0 F0 D (forR (fun d ρ s => onO (asgT tg d ρ) fun ρ' => runs body ρ' s) (ds.drop (i + 1)) ρ cc.s),
      fun σ' H' hN => ⟨ds.length - (i + 1), by omega, hN⟩, fun x H' hy => ?_⟩
    obtain ⟨c2, rfl, es2, t2, ok2, rx⟩ := yl x H' hy
    cases ea : asgT tg ds[i] ρ with
    | none =>
      have pc : PostS X.K X.mg E c0 F0 D ((onO (asgT tg ds[i] ρ) fun ρ' => runs body ρ' cc.s).sq (forR (fun d ρ s => onO (asgT tg d ρ) fun ρ' => runs body ρ' s) (ds.drop (i + 1)))) := pc
      rw [ea] at pc
      exact pc.elim
    | some ρ' =>
      have pc : PostS X.K X.mg E c0 F0 D ((onO (asgT tg ds[i] ρ) fun ρ' => runs body ρ' cc.s).sq (forR (fun d ρ s => onO (asgT tg d ρ) fun ρ' => runs body ρ' s) (ds.drop (i + 1)))) := pc
      rw [ea] at pc
      have pc : PostS X.K X.mg E c0 F0 D ((runs body ρ' cc.s).sq (forR (fun d ρ s => onO (asgT tg d ρ) fun ρ' => runs body ρ' s) (ds.drop (i + 1)))) := pc
      refine gT_any ok2 hz ea (relc.step t2) rx fun σ' rel' _ _ => ?_
      refine ⟨c0, c1.F, c2, ρ', rfl, tc.trans okc t2, sbc.trans t2.f, ok2, rel', ?_⟩
      rw [es2]
      cases er : runs body ρ' cc.s with
      | nx ρ2 s2 =>
        rw [er] at pc
        intro σ3 c3 e3 t3 sb3 ok3 rel3
        subst e3
        exact ⟨rfl, hlt, c3, ρ2, rfl, t3, ok3, rel3, sb3, pc⟩
      | rt d s2 => rw [er] at pc; exact pc
      | ex x s2 => rw [er] at pc; exact pc
      | er => rw [er] at pc; exact pc
  · have ei : i = ds.length := by omega
    subst ei
    rw [List.drop_length] at pc
    have pc : PostS X.K X.mg E c0 F0 D (.nx ρ cc.s) := pc
    exact .inl ⟨(gd cc hG' okc ds.length).1 (Nat.le_refl _), pc σ cc rfl tc (sb1.trans sbc) okc relc⟩
theorem ss_whl {body : CSs Y.S} {fuel : List SV → Y.S → Nat} {body' : List Stmt} (C : SCxt X E n N sc) (ht : PT X t' (tT X.K X.mg (WofE E) t)) (hB : PSs X body' (tS X.K X.mg E (runs body))) :
    PS X (.While t' body' [] pos) (tS (Y := Y) X.K X.mg E (run (.whl t body fuel))) := by
  refine (ps_while C.po ht hB).weak fun D σ H h => ?_
  obtain ⟨c0, F0, c, ρ, rfl, t0, sb, ok, rel, p⟩ := h
  have p : PostS X.K X.mg E c0 F0 D (whlR (fun ρ s => (ev t ρ s).bind tru) (runs body) (fuel ρ c.s) ρ c.s) := p
  refine ⟨fun m σ H => ∃ (cc : Cf Y) (ρ : List SV), cc.H = H ∧ Step c0 cc ∧ Ok cc ∧ Rel X.K c0.H cc σ ρ ∧ Sub F0 cc.F ∧ PostS X.K X.mg E c0 F0 D (whlR (fun ρ s => (ev t ρ s).bind tru) (runs body) m ρ cc.s), ⟨fuel ρ c.s, c, ρ, rfl, t0, ok, rel, sb, p⟩, fun m σ H hW => ?_⟩
  obtain ⟨cc, ρ, rfl, tc, okc, relc, sbc, pc⟩ := hW
  cases m with
  | zero => exact pc.elim
  | succ m =>
    have pc : PostS X.K X.mg E c0 F0 D (((ev t ρ cc.s).bind tru).ob fun k s1 => if k then (runs body ρ s1).sq (whlR (fun ρ s => (ev t ρ s).bind tru) (runs body) m) else .nx ρ s1) := pc
    refine tR.ob (f := fun ρ s => (ev t ρ s).bind tru) tc okc relc pc fun k c1 x t1 ok1 rel1 j1 p1 => ?_
    have j1 : k = x := j1
    subst j1
    cases k with
    | false => exact iteF (p1 σ c1 rfl (tc.trans okc t1) (sbc.trans t1.f) ok1 rel1)
    | true =>
      have p1 : PostS X.K X.mg E c0 F0 D ((runs body ρ c1.s).sq (whlR (fun ρ s => (ev t ρ s).bind tru) (runs body) m)) := p1
      refine iteT ⟨fun σ H => ∃ (cc : Cf Y) (ρ : List SV), cc.H = H ∧ Step c0 cc ∧ Ok cc ∧ Rel X.K c0.H cc σ ρ ∧ Sub F0 cc.F ∧ PostS X.K X.mg E c0 F0 D (whlR (fun ρ s => (ev t ρ s).bind tru) (runs body) m ρ cc.s), fun σ' H' hN => ⟨m, Nat.lt_succ_self m, hN⟩, ?_⟩
      refine ⟨c0, F0, c1, ρ, rfl, tc.trans okc t1, sbc.trans t1.f, ok1, rel1, ?_⟩
      cases er : runs body ρ c1.s with
      | nx ρ2 s2 =>
        rw [er] at p1
        intro σ3 c3 e3 t3 sb3 ok3 rel3
        subst e3
        exact ⟨c3, ρ2, rfl, t3, ok3, rel3, sb3, p1⟩
      | rt d s2 => rw [er] at p1; exact p1
      | ex x s2 => rw [er] at p1; exact p1
      | er => rw [er] at p1; exact p1
theorem ss_frz {i : Nat} {A : CS Y.S} {st : Stmt} (hA : PS X st (tS X.K X.mg E (run A))) : PS X st (tS (Y := Y) X.K X.mg E (run (.frz i A))) := by
  refine hA.weak fun D σ H h => ?_
  obtain ⟨c0, F0, c, ρ, rfl, t0, sb, ok, rel, p⟩ := h
  have p : PostS X.K X.mg E c0 F0 D (match ρ[i]? with | some (.ow d) => run A (ρ.set i (.va d)) c.s | _ => run A ρ c.s) := p
  split at p
  · rename_i d hd
    obtain ⟨c2, e1, e2, t2, ok2, sb2, rel2⟩ := rel.frz ok t0 rfl hd
    rw [← e1] at p
    exact ⟨c0, F0, c2, _, e2, t2, sb.trans sb2, ok2, rel2, p⟩
  · exact ⟨c0, F0, c, ρ, rfl, t0, sb, ok, rel, p⟩
theorem vis_ok {x : Str} (C : SCxt X E n N sc) (h : visB sc x = true) {i : Nat} {p : Pos} (hi : (N[i]? == some x) = true) : PE X (.Name x p) (tVar i) := by
  obtain ⟨v1, v2, v3⟩ := visB_ok h
  exact pe_var (by rw [C.hN]; exact beq_iff_eq.mp hi) (by rw [C.hs]; exact v1) v2 v3
theorem ss_app {i : Nat} {x : Str} {p apos cpos : Pos} (C : SCxt X E n N sc) (hi : (N[i]? == some x) = true) (hv : visB sc x = true) (hs : notStar e' = true) (hl : (apos.endLine == cpos.line) = true) (he : PE X e' (tE X.K X.mg (WofE E) e)) :
    PS X (.Expr (.Call (.Attribute (.Name x p) "append" apos) [e'] [] cpos) pos) (tS (Y := Y) X.K X.mg E (run (.app i e))) := by
  refine (ps_expr (pe_bm PySem.F.plainAttrs_list PySem.F.slot_list_append PySem.F.type_list_append mt_append (vis_ok C hv hi) (pa_cons he pa_nil (star_cons hs _ _)) rfl (few_ok hs) hl (star_cons hs _ _) rfl) rfl).weak fun D σ H h => ?_
  obtain ⟨c0, F0, c, ρ, rfl, t0, sb, ok, rel, p⟩ := h
  have p : PostS X.K X.mg E c0 F0 D (onO (ownL ρ i) fun ds => (ev e ρ c.s).ob fun x s => (dat x s).ob fun d s => if lenOk (ds.length + 1) then .nx (ρ.set i (.ow (.lst (ds ++ [d])))) s else .er) := p
  obtain ⟨ds, ho, p⟩ := p.onO
  have hρ : ρ[i]? = some (.ow (.lst ds)) := by
    unfold ownL at ho
    split at ho
    · cases ho; assumption
    · cases ho
  obtain ⟨q, hσ, o, z⟩ := rel.ow i _ hρ
  obtain ⟨vs, hq, rs⟩ := o.1
  refine ⟨.ref q, hσ, .inl ⟨rfl, vs, .inl (.inl hq)⟩, ?_⟩
  refine tR.ob t0 ok rel p fun v c1 x t1 ok1 rel1 j1 p1 => ?_
  obtain ⟨hk, p1⟩ := p1.dat
  obtain ⟨c2, e1, e2, t2, ok2, r⟩ := Is.data j1 hk t1 ok1
  have o2 := o.step t2
  split at p1
  · rename_i hlen
    have hq2 : c2.H q = some (.lst vs) := t2.h q _ hq o.2.2
    rw [← e2]
    refine ⟨q, vs, v, rfl, rfl, hq2, ?_, ?_⟩
    · rw [rs.length]
      have := of_decide_eq_true hlen
      have e : sizeLine = 16777216 := by decide
      omega
    · refine p1 σ ⟨c2.F, upd c2.H q (.lst (vs ++ [v])), c2.s, c2.g⟩ e1 ((t0.trans ok t2).mut z _) (sb.trans t2.f) (ok2.mut o2.2.1 o2.2.2 _) ((rel.step t2).mut hρ hσ ?_)
      exact ⟨⟨_, upd_same, (rs.mono t2.f).append (.cons r .nil)⟩, o2.2.1, o2.2.2⟩
  · exact p1.elim
theorem ss_ext {i : Nat} {x : Str} {p apos cpos : Pos} (C : SCxt X E n N sc) (hi : (N[i]? == some x) = true) (hv : visB sc x = true) (hs : notStar e' = true) (hl : (apos.endLine == cpos.line) = true) (he : PE X e' (tE X.K X.mg (WofE E) e)) :
    PS X (.Expr (.Call (.Attribute (.Name x p) "extend" apos) [e'] [] cpos) pos) (tS (Y := Y) X.K X.mg E (run (.ext i e))) := by
  refine (ps_expr (pe_bm PySem.F.plainAttrs_list PySem.F.slot_list_extend PySem.F.type_list_extend mt_extend (vis_ok C hv hi) (pa_cons he pa_nil (star_cons hs _ _)) rfl (few_ok hs) hl (star_cons hs _ _) rfl) rfl).weak fun D σ H h => ?_
  obtain ⟨c0, F0, c, ρ, rfl, t0, sb, ok, rel, p⟩ := h
  have p : PostS X.K X.mg E c0 F0 D (onO (ownL ρ i) fun ds => (ev e ρ c.s).ob fun x s => match x.2 with | .lst es => if lenOk (ds.length + es.length) then .nx (ρ.set i (.ow (.lst (ds ++ es)))) s else .er | _ => .er) := p
  obtain ⟨ds, ho, p⟩ := p.onO
  have hρ : ρ[i]? = some (.ow (.lst ds)) := by
    unfold ownL at ho
    split at ho
    · cases ho; assumption
    · cases ho
  obtain ⟨q, hσ, o, z⟩ := rel.ow i _ hρ
  obtain ⟨vs, hq, rs⟩ := o.1
  refine ⟨.ref q, hσ, .inl ⟨rfl, vs, .inl (.inl hq)⟩, ?_⟩
  refine tR.ob t0 ok rel p fun v c1 x t1 ok1 rel1 j1 p1 => ?_
  obtain ⟨k, d⟩ := x
  have o2 := o.step t1
  cases d with
  | lst es =>
    have p1 : PostS X.K X.mg E c0 F0 D (if lenOk (ds.length + es.length) then .nx (ρ.set i (.ow (.lst (ds ++ es)))) c1.s else .er) := p1
    split at p1
    · rename_i hlen
      have hq2 : c1.H q = some (.lst vs) := t1.h q _ hq o.2.2
      obtain ⟨q2, vs2, rfl, hb, rb⟩ := Is.lst j1 ok1
      refine ⟨q, q2, vs, vs2, rfl, rfl, hq2, hb, ?_, ?_⟩
      · rw [rs.length, rb.length]
        exact szM hlen
      · refine p1 σ ⟨c1.F, upd c1.H q (.lst (vs ++ vs2)), c1.s, c1.g⟩ rfl ((t0.trans ok t1).mut z _) (sb.trans t1.f) (ok1.mut o2.2.1 o2.2.2 _) ((rel.step t1).mut hρ hσ ?_)
        exact ⟨⟨_, upd_same, (rs.mono t1.f).append rb⟩, o2.2.1, o2.2.2⟩
    · exact p1.elim
  | _ => exact p1.elim
theorem findIdx_pys {e : D} (he : e.sh 60 = true) : ∀ (ds : List D), shs 59 ds = true → SeqAt.dataPlace (pys ds) e.py = ds.findIdx? fun y => deq y e
  | [], _ => rfl
  | d :: ds, h => by
    have h := Bool.and_eq_true_iff.mp h
    have ih := findIdx_pys he ds h.2
    unfold SeqAt.dataPlace at ih ⊢
    show (d.py :: pys ds).findIdx? _ = _
    rw [List.findIdx?_cons, List.findIdx?_cons, ih, py_eqv 59 60 d e h.1 he]
theorem ss_rem {i : Nat} {x : Str} {p apos cpos : Pos} (C : SCxt X E n N sc) (hi : (N[i]? == some x) = true) (hv : visB sc x = true) (hs : notStar e' = true) (hl : (apos.endLine == cpos.line) = true) (he : PE X e' (tE X.K X.mg (WofE E) e)) :
    PS X (.Expr (.Call (.Attribute (.Name x p) "remove" apos) [e'] [] cpos) pos) (tS (Y := Y) X.K X.mg E (run (.rem i e))) := by
  refine (ps_expr (pe_bm PySem.F.plainAttrs_list PySem.F.slot_list_remove PySem.F.type_list_remove (mt_removeD (hr65 C.room)) (vis_ok C hv hi) (pa_cons he pa_nil (star_cons hs _ _)) rfl (few_ok hs) hl (star_cons hs _ _) rfl) rfl).weak fun D σ H h => ?_
  obtain ⟨c0, F0, c, ρ, rfl, t0, sb, ok, rel, p⟩ := h
  have p : PostS X.K X.mg E c0 F0 D (onO (ownL ρ i) fun ds => (ev e ρ c.s).ob fun x s => if x.2.sh 60 && shs 59 ds then onO (ds.findIdx? fun z => deq z x.2) fun j => .nx (ρ.set i (.ow (.lst (ds.eraseIdx j)))) s else .er) := p
  obtain ⟨ds, ho, p⟩ := p.onO
  have hρ : ρ[i]? = some (.ow (.lst ds)) := by
    unfold ownL at ho
    split at ho
    · cases ho; assumption
    · cases ho
  obtain ⟨q, hσ, o, z⟩ := rel.ow i _ hρ
  obtain ⟨vs, hq, rs⟩ := o.1
  refine ⟨.ref q, hσ, .inl ⟨rfl, vs, .inl (.inl hq)⟩, ?_⟩
  refine tR.ob t0 ok rel p fun v c1 x t1 ok1 rel1 j1 p1 => ?_
  have o2 := o.step t1
  split at p1
  · rename_i hsh
    have hsh := Bool.and_eq_true_iff.mp hsh
    obtain ⟨j, hj, p1⟩ := p1.onO
    have hq2 : c1.H q = some (.lst vs) := t1.h q _ hq o.2.2
    refine ⟨q, vs, v, _, pys ds, j, rfl, rfl, hq2, pys_dp ok1.sub (rs.mono t1.f) hsh.2, Is.dp j1 ok1 hsh.1, shaped_lst hsh.2, shaped_of hsh.1, by rw [findIdx_pys hsh.1 ds hsh.2]; exact hj, ?_⟩
    refine p1 σ ⟨c1.F, upd c1.H q (.lst (vs.eraseIdx j)), c1.s, c1.g⟩ rfl ((t0.trans ok t1).mut z _) (sb.trans t1.f) (ok1.mut o2.2.1 o2.2.2 _) ((rel.step t1).mut hρ hσ ?_)
    exact ⟨⟨_, upd_same, (rs.mono t1.f).erase j⟩, o2.2.1, o2.2.2⟩
  · exact p1.elim
def rSetX : TSet := fun o i v H Q => rSetL o i v H Q ∨ rSetD o i v H Q
theorem set_X (C : SCxt X E n N sc) : PSet X rSetX := by
  intro pins s σ H o i v ov iv u Q I ro ri rv h
  rcases h with h | h
  · exact set_list pins s σ H o i v ov iv u Q I ro ri rv h
  · exact set_dict (hu_of C.room) pins s σ H o i v ov iv u Q I ro ri rv h
theorem RepK.length {K : PySem.W.Frag} {F : Hp} : ∀ {kvs : List (Key × V)} {es : List (Str × Mf.D)}, RepK K F kvs es → kvs.length = es.length
  | _, _, .nil => rfl
  | _, _, .cons _ r => congrArg (· + 1) (RepK.length r)
theorem ss_seti {i : Nat} {x : Str} {p ps : Pos} {k : CE Y.S} {k' : Expr} (C : SCxt X E n N sc) (hi : (N[i]? == some x) = true) (hv : visB sc x = true) (hk' : notSlice k' = true) (hc : notComp e' = true) (hk : PE X k' (tE X.K X.mg (WofE E) k)) (he : PE X e' (tE X.K X.mg (WofE E) e)) :
    PS X (.Assign [.Subscript (.Name x p) k' ps] e' pos) (tS (Y := Y) X.K X.mg E (run (.seti i k e))) := by
  have hs : swapsWithSole [.Subscript (.Name x p) k' ps] e' pos.line X.env = pure false := by
    cases e' <;> first | rfl | cases hc
  have hw : swappedStores [.Subscript (.Name x p) k' ps] e' X.env = pure none := by
    cases e' <;> rfl
  have ha : ∀ v, assign (.Subscript (.Name x p) k' ps) X.env v = (do
      let ov ← holding [v] (eval (.Name x p) X.env)
      let iv ← holding [v, ov] (eval k' X.env)
      standAt ps
      holding [v, ov, iv] (setItem ov iv v)
      release [v, ov, iv] []) := by
    intro v
    cases k' <;> first | rfl | cases hk'
  refine (ps_asg he (pg_sub (vis_ok C hv hi) hk (set_X C) ha) hs hw rfl).weak fun D σ H h => ?_
  obtain ⟨c0, F0, c, ρ, rfl, t0, sb, ok, rel, p⟩ := h
  have p : PostS X.K X.mg E c0 F0 D ((ev e ρ c.s).ob fun x s => (dat x s).ob fun d s => if isOw ρ[i]? then (ev k ρ s).ob fun y s => onO ((ρ[i]?).bind fun o => setD o y.2 d) fun o => .nx (ρ.set i o) s else .er) := p
  refine tR.ob t0 ok rel p fun v c1 xd t1 ok1 rel1 j1 p1 => ?_
  obtain ⟨hkk, p1⟩ := p1.dat
  obtain ⟨c2, e1, e2, t2, ok2, r⟩ := Is.data j1 hkk t1 ok1
  rw [← e2]
  rw [← e1] at p1
  split at p1
  · rename_i hio
    have ho : ∃ d0, ρ[i]? = some (.ow d0) := by
      unfold isOw at hio
      split at hio
      · exact ⟨_, by assumption⟩
      · cases hio
    obtain ⟨d0, hρ⟩ := ho
    have rel2 := rel.step t2
    obtain ⟨q, hσ, o, z⟩ := rel2.ow i _ hρ
    refine ⟨.ref q, hσ, ?_⟩
    refine tR.ob (t0.trans ok t2) ok2 rel2 p1 fun y c3 xk t3 ok3 rel3 j3 p3 => ?_
    obtain ⟨o', hset, p3⟩ := p3.onO
    rw [hρ] at hset
    have hset : setD (.ow d0) xk.2 xd.2 = some o' := hset
    have o3 := o.step t3
    have t03 := (t0.trans ok t2).trans ok2 t3
    obtain ⟨kk, dk⟩ := xk
    obtain ⟨kx, dx⟩ := xd
    have hset : setD (.ow d0) dk dx = some o' := hset
    have r : Rep X.K c2.F v dx := r
    cases d0 with
    | lst ds =>
      cases dk with
      | int ki =>
        obtain ⟨j, hj, rfl⟩ := Option.map_eq_some_iff.mp hset
        obtain ⟨vs, hq, rs⟩ := o3.1
        refine .inl ⟨q, vs, ki, j, rfl, Is.int j3, hq, by rw [rs.length]; exact hj, ?_⟩
        refine p3 σ ⟨c3.F, upd c3.H q (.lst (vs.set j v)), c3.s, c3.g⟩ rfl (t03.mut z _) ((sb.trans t2.f).trans t3.f) (ok3.mut o3.2.1 o3.2.2 _) (rel3.mut hρ hσ ?_)
        exact ⟨⟨_, upd_same, rs.set (r.mono t3.f) j⟩, o3.2.1, o3.2.2⟩
      | _ => cases hset
    | dct es =>
      cases dk with
      | str ks =>
        have hset : (if lenOk (es.length + 1) then some (SV.ow (.dct (putD es ks dx))) else none) = some o' := hset
        split at hset
        · rename_i hlen
          cases hset
          obtain ⟨kvs, hq, rs⟩ := o3.1
          have hL : kvs.length < sizeLine := by
            rw [RepK.length rs]
            exact szM hlen
          refine .inr ⟨q, _, rfl, by rw [Is.str j3]; exact DPut.k (k := .inr ks) hq hL, ?_⟩
          refine p3 σ ⟨c3.F, upd c3.H q (.dK (putK kvs (.inr ks) v)), c3.s, c3.g⟩ rfl (t03.mut z _) ((sb.trans t2.f).trans t3.f) (ok3.mut o3.2.1 o3.2.2 _) (rel3.mut hρ hσ ?_)
          exact ⟨⟨_, upd_same, rs.put (r.mono t3.f)⟩, o3.2.1, o3.2.2⟩
        · cases hset
      | _ => cases hset
    | _ => exact o.1.elim
  · exact p1.elim
end
end Mf
set_option Elab.async false
set_option linter.all false
set_option maxRecDepth 100000
set_option maxHeartbeats 2000000
namespace Mf
open PySem L2
section
variable {X : Cx} {Y : Sys} {E : XK} {n : Nat} {N : List Str} {sc : Scope} {pos : Pos} {e : CE Y.S} {e' : Expr}
theorem ss_rse {x m : Str} {j : Nat} {p p2 p3 : Pos} (C : SCxt X E n N sc) (gx : Glb X.K X.mg x d_EXC) (hg : glB sc x = true) (hx : excNames.contains x = true) :
    PS X (.Raise (some (.Call (.Name x p) [.Constant (.str m) j p2] [] p3)) none pos) (tS (Y := Y) X.K X.mg E (run (.rse x))) := by
  obtain ⟨M, _, all⟩ := gx.exc.all
  obtain ⟨K1, x1⟩ := all x (List.contains_iff_mem.mp hx) (.inl (gx.pre hx))
  refine (ps_raise C.calm C.tk (pmk_own PySem.F.excBase_ValueError x1.nw x1.gm x1.kp (raises_own x1.ec.hs x1.ty) (C.gl hg) (glB_ok hg).2.1)).weak fun D σ H h => ?_
  obtain ⟨c0, F0, c, ρ, rfl, t0, s0, ok, rel, p⟩ := h
  have p : PostS X.K X.mg E c0 F0 D (if excNames.contains x = true then .ex x c.s else .er) := p
  rw [if_pos hx] at p
  exact p K1 c x1.gm rfl t0 ok
theorem Rel.plain {K : PySem.W.Frag} {H0 H1 : Hp} {c : Cf Y} {σ : L2.St} {ρ : List SV} (r : Rel K H0 c σ ρ) (h : ρ.all notOw = true) : Rel K H1 c σ ρ where
  len := r.len
  va := r.va
  ow := fun i d e => by
    have := List.all_eq_true.mp h _ (List.mem_of_getElem? e)
    cases this
  ap := r.ap
theorem Rel.only {K : PySem.W.Frag} {H0 : Hp} {c : Cf Y} {σ : L2.St} {m j : Nat} {v : V} {d : D} (hl : σ.length = m) (hv : σ[j]? = some (some v)) (r : Rep K c.F v d) : Rel K H0 c σ ((List.replicate m .no).set j (.va d)) where
  len := by rw [List.length_set, List.length_replicate, hl]
  va := fun i d' e => by
    by_cases q : j = i
    · subst q
      by_cases hj : j < m
      · rw [List.getElem?_set_self (by rw [List.length_replicate]; exact hj)] at e
        cases e
        exact ⟨v, hv, r⟩
      · rw [List.getElem?_eq_none (by rw [List.length_set, List.length_replicate]; omega)] at e
        cases e
    · rw [List.getElem?_set_ne q, List.getElem?_replicate] at e
      split at e <;> cases e
  ow := fun i d' e => by
    by_cases q : j = i
    · subst q
      by_cases hj : j < m
      · rw [List.getElem?_set_self (by rw [List.length_replicate]; exact hj)] at e
        cases e
      · rw [List.getElem?_eq_none (by rw [List.length_set, List.length_replicate]; omega)] at e
        cases e
    · rw [List.getElem?_set_ne q, List.getElem?_replicate] at e
      split at e <;> cases e
  ap := fun i i' d' e' p _ e => by
    by_cases q : j = i
    · subst q
      by_cases hj : j < m
      · rw [List.getElem?_set_self (by rw [List.length_replicate]; exact hj)] at e
        cases e
      · rw [List.getElem?_eq_none (by rw [List.length_set, List.length_replicate]; omega)] at e
        cases e
    · rw [List.getElem?_set_ne q, List.getElem?_replicate] at e
      split at e <;> cases e
theorem ss_tryc {i j k : Nat} {x m y : Str} {px p0 pm p1 py pn p2 : Pos} (C : SCxt X E n N sc) (gx : ExcK X.K X.mg) (h1 : (N[i]? == some x) = true) (h2 : locB sc x = true) (h3 : noSC e' = true) (h4 : isLc e' = false) (h5 : glB sc "MeasureError" = true) (h6 : (N[k]? == some m) = true) (h7 : sc.names.lookup m = some .local) (h8 : (N[j]? == some y) = true) (h9 : locB sc y = true) (h10 : visB sc m = true)
    (he : ∀ (E' : XK) (pn : List (Addr × Obj)) (xe : Value → Shared → Prop), SCxt (X.tr pn xe) E' n N sc → PE (X.tr pn xe) e' (tE X.K X.mg (WofE E') e)) :
    PS X (.Try [.Assign [.Name x px] e' p0] [.ExceptHandler (some (.Name "MeasureError" pm)) (some m) [.Assign [.Name y py] (.Name m pn) p2] p1] [] [] pos) (tS (Y := Y) X.K X.mg E (run (.tryc i j k e))) := by
  obtain ⟨M, hM, all⟩ := gx.all
  have hN : X.N.Nodup := by rw [C.hN]; exact C.nd
  have hk : X.N[k]? = some m := by rw [C.hN]; exact beq_iff_eq.mp h6
  have hj : X.N[j]? = some y := by rw [C.hN]; exact beq_iff_eq.mp h8
  have hln : X.env.kindOf m = some .local := by unfold Env.kindOf; rw [C.hs]; exact h7
  obtain ⟨v1, v2, v3⟩ := visB_ok h10
  have base := ps_tryX (X := X) (x := "MeasureError") (n := m) (np := pm) (pos := pos) (pos' := p1) (body := [.Assign [.Name x px] e' p0]) (b₀ := .Assign [.Name y py] (.Name m pn) p2) (suite := []) (tb := fun E' => tS (Y := Y) X.K X.mg E' (runs (.cons (.asg false i e) .nil))) (ts := fun _ => tSeq (tAsg (tVar k) (gName j)) tNext) C.stk C.fr C.noex hN hk hln ⟨C.gl h5, (glB_ok h5).2.1, .inl hM⟩ (fun E' pn xe tk po => ?_) (fun a oe pn => ?_)
  · refine ⟨fun pins s σ H D I h => base.run pins s σ H D I ?_⟩
    have hσN := I.len
    clear base
    obtain ⟨c0, F0, c, ρ, rfl, t0, s0, ok, rel, p⟩ := h
    unfold run at p
    split at p
    · rename_i hp
      refine ⟨c, c.F, c, ρ, rfl, Step.refl c, Sub.refl _, ok, rel.plain hp, ?_⟩
      show PostS X.K X.mg _ c c.F D (Out.sq ((ev e ρ c.s).ob fun x s => onO (stow false x) fun v => onO (put ρ i v) fun ρ' => .nx ρ' s) (runs .nil))
      cases hev : ev e ρ c.s with
      | ok a s =>
        rw [hev] at p
        show PostS X.K X.mg _ c c.F D (Out.sq (onO (stow false a) fun v => onO (put ρ i v) fun ρ' => .nx ρ' s) (runs .nil))
        obtain ⟨v, hv, p⟩ := PostS.onO p
        obtain ⟨ρ', hρ, p⟩ := PostS.onO p
        rw [hv]
        show PostS X.K X.mg _ c c.F D (Out.sq (onO (put ρ i v) fun ρ' => .nx ρ' s) (runs .nil))
        rw [hρ]
        intro σ' c' e1 t1 s1 ok1 r1
        have hp' : ρ'.all notOw = true := by
          unfold put at hρ
          split at hρ
          · cases hρ
            refine List.all_eq_true.mpr fun z hz => ?_
            rcases List.mem_or_eq_of_mem_set hz with z1 | z1
            · exact List.all_eq_true.mp hp z z1
            · subst z1
              obtain ⟨ka, da⟩ := a
              cases ka <;> cases hv <;> rfl
          · cases hρ
        exact p σ' c' e1 (t0.trans ok t1) (s0.trans s1) ok1 (r1.plain hp')
      | ex z s =>
        rw [hev] at p
        dsimp only at p
        split at p
        · rename_i hc
          simp only [Bool.and_eq_true, decide_eq_true_eq] at hc
          obtain ⟨⟨⟨c1, c2⟩, c3⟩, c4⟩ := hc
          intro C' c' hC' e1 t1 ok1
          obtain ⟨Cz, x1⟩ := all z (List.contains_iff_mem.mp c1) (.inl (by rw [hC']; exact fun z => nomatch z))
          have : C' = Cz := by
            have := hC'.symm.trans x1.gm
            cases this
            rfl
          subst this
          refine ⟨C', rfl, rfl, x1.me, fun a σ' hσ ha => ?_⟩
          have hl : ρ.length = σ'.length := by
            rw [rel.len, hσ, hσN]
          refine ⟨.ref a, List.getElem?_set_self (by omega), ?_⟩
          have t2 := Step.new ok1 ha (.ext (excP a C'))
          refine p _ (⟨upd c'.F a (.ext (excP a C')), upd c'.H a (.ext (excP a C')), c'.s, c'.g⟩ : Cf Y) e1 ((t0.trans ok t1).trans ok1 t2) (s0.trans (t1.f.trans t2.f)) (ok1.new ha _) (Rel.only (v := .ref a) ?_ ?_ (.exn x1.ns upd_same))
          · rw [List.length_set, List.length_set, List.length_set, hl]
          · rw [List.getElem?_set_ne (Ne.symm c4), List.getElem?_set_self (by rw [List.length_set]; omega)]
        · exact p.elim
      | er => rw [hev] at p; exact p.elim
    · exact p.elim
  · have C' : SCxt (X.tr pn xe) E' n N sc :=
      { hN := C.hN, hs := C.hs, nd := C.nd, calm := C.calm, room := C.room, tk := tk, we := ⟨E', rfl⟩, blt := C.blt, po := po, fn := C.fn, kd := C.kd, stk := C.stk, fr := C.fr, noex := C.noex }
    exact ss_cons (ss_asg C' h1 h2 h3 (by rw [h4]; rfl) (he E' pn xe C')) ss_nil
  · exact pss_cons (ps_set (X := X.suite a ((a, oe) :: pn)) (i := j) hN hj (by show L2.Loc X.env.scope y; exact loc_ok C h9) (pe_var (X := X.suite a ((a, oe) :: pn)) (i := k) hk (by show Vis X.env.scope m; rw [C.hs]; exact v1) v2 v3) rfl (.inl (by show X.fn y = true; rw [C.fn]))) pss_nil
end
end Mf
set_option Elab.async false
set_option linter.all false
set_option maxRecDepth 100000
set_option maxHeartbeats 2000000
namespace Mf
open PySem L2 PySem.Spec PyProof.Rows

theorem note_any {M : Model} {A : Around} {E1 : Value → Shared → Prop} {s : Shared} {B : Heap} {env : Env} {out : List Env} {L a : Addr} {Z : Obj → Prop} {fl : Value} {Q : Unit → Shared → Prop} (hZ : HandSPX.Steady Z) (hfr : A.frames = some (env :: out)) (hf : env.frame = some L)
    (h : B.StaysIn s.heap ∧ B.get? a = none ∧ s.heap.FunFrames B (env :: out) ∧ HandSPX.TracedZ s.heap B a Z fl) (hQ : ∀ g, HandSPX.HeldZ B (env :: out) a Z L g → s.heap.UpToSlots g → Q () { s with heap := g }) : wpAny M A (noteFrame (.ref a) env) Q E1 s := by
  by_cases e : fl = rawInt L
  · subst e
    exact HandSPX.againZ hf h.2.2.2 (hQ s.heap h (Heap.UpToSlots.refl _))
  obtain ⟨st, na, ff, oe, vs, T, oT, ts, ge, hz, gd, g1, bT, neT, gT, dT, g3⟩ := h
  have o3 : 3 < ts.size := (Array.getElem?_eq_some_iff.mp g3).1
  have o1 : 1 < vs.size := (Array.getElem?_eq_some_iff.mp g1).1
  unfold noteFrame
  simp only [hf]
  refine wpAny_bind (wpAny_field ge gd g1 ?_)
  rw [if_pos (by simp)]
  refine wpAny_bind (wpAny_field gT dT g3 ?_)
  rw [if_neg (fun z => e (eq_of_beq z))]
  refine wpAny_bind (wpAny_setField gT dT o3 ?_)
  have away : ∀ b, b ≠ T → (s.heap.update T (Obj.mapFields (·.setIfInBounds 3 Value.none))).get? b = s.heap.get? b := fun b hb => Heap.get?_update_other _ _ fun z => hb z.symm
  have rec_ne : ∀ b o, s.heap.get? b = some o → (∀ ws, o.data ≠ .fields ws) → b ≠ T := fun b o hb hw z => by
    rw [z, gT] at hb
    cases hb
    exact hw ts dT
  have base_ne : ∀ b o, B.get? b = some o → b ≠ T := fun b o hb z => by rw [z, bT] at hb; cases hb
  refine HandSPX.wpAny_entryZ hZ hfr (ff.of_keeps fun b o hb hw => ⟨o, by rw [away b (rec_ne b o hb hw)]; exact hb, rfl⟩) hf (by rw [away a fun z => neT z.symm]; exact ge) (fun b o hb => by rw [away b (base_ne b o hb)]; exact st b o hb) na gd o1 hz fun g hN => ?_
  exact hQ g ⟨hN.1, na, hN.2.1, hN.2.2.1⟩ fun b o hb hw => hN.2.2.2 b o (by rw [away b (rec_ne b o hb hw)]; exact hb) hw

abbrev blkX (X : Cx) (s : Shared) (H : Hp) (scope : Scope) (ce : Env) (fp : List Addr) (xb : Value → Shared → Prop) : Cx := { X.blk s H scope ce fp with xe := xb }
abbrev outB (X : Cx) (ce : Env) : Value → Shared → Prop := notedBy (model X.prog X.w) X.A ce (CompFails (model X.prog X.w) X.A X.xe ce)
theorem Inv.toX {X : Cx} {s0 : Shared} {H0 : Hp} {scope : Scope} {ce : Env} {fp : List Addr} {xb : Value → Shared → Prop} {pins : List (Addr × Obj)} {σ : L2.St} {H : Hp} {s : Shared} (I : L2.Inv (X.blk s0 H0 scope ce fp) pins σ H s) : L2.Inv (blkX X s0 H0 scope ce fp xb) pins σ H s :=
  ⟨⟨I.ok.mod, I.ok.kind, I.ok.glob, I.ok.blt, I.ok.above, I.ok.inj, I.ok.has, I.ok.cab, I.ok.hd, I.ok.frames, I.ok.stk, I.ok.exf, I.ok.bs, I.ok.bsz, I.ok.noex, I.ok.exfs, I.ok.funs, I.ok.frf⟩, I.os, I.bare, I.base, I.loc, I.cell, I.free, I.freeC, I.pin, I.hok, I.len⟩
theorem comp_takes {X : Cx} {E : XK} {pins : List (Addr × Obj)} {σ : L2.St} {H3 : Hp} {s3 : Shared} {scope : Scope} {fp : List Addr} {ce : Env} (hs : X.stack = X.env :: X.outer) (hf : X.env.frame = some X.env.locals) (tk : Takes X (fun cls d _ H => E cls d H))
    (I3 : L2.Inv X pins σ H3 s3) (f3 : ∀ b ∈ fp, FpOk X pins H3 b ∧ b < s3.heap.objs.size) (hL : ce.locals = s3.heap.objs.size) (hfr : ce.frame = X.env.frame) : Takes (blkX X s3 H3 scope ce fp (outB X ce)) (fun cls d _ H => E cls d H) := by
  intro u s' x
  obtain ⟨a, B, sI, pins', σ', H6, cls, d, rfl, I6, nb, up, sky, na, os, ag, w⟩ := x
  have I7 : L2.Inv X pins σ H6 sI := I3.call' (ch := fp) I6.os I6.base I6.hok I6.bare fun b hb => by
    obtain ⟨_, q1, _, q2, q3, q4⟩ := (f3 b hb).1
    exact ⟨q2, q1, q3, q4⟩
  have nC : H6 ce.locals = none := I6.free
  obtain ⟨m, hn, _⟩ := I6.loc
  have hn : sI.heap.Ns ce.locals m := hn
  obtain ⟨_, c1, _, c3, c4, c5⟩ := I3.fpOk (b := ce.locals) (H' := H6) (by rw [hL]; exact Nat.le_refl _) nC
  have frm : X.A.frames = some (X.env :: X.outer) := by rw [I3.ok.frames, hs]
  show wpAny _ X.A (noteFrame (.ref a) ce) (fun _ s'' => CompFails _ _ _ ce (.ref a) s'') _ s'
  rw [noteFrame_env _ hfr]
  have sky : Sky B (X.env :: X.outer) a (Zc cls d) ce.locals s'.heap := by rw [← hs]; exact sky
  have fin : ∀ h1, HandSPX.HeldZ B (X.env :: X.outer) a (Zc cls d) X.env.locals h1 → s'.heap.UpToSlots h1 → CompFails (model X.prog X.w) X.A X.xe ce (.ref a) { s' with heap := h1 } := by
    intro h1 hh up1
    have n1 : h1.Ns ce.locals m := up1.ns (up.ns hn)
    refine ⟨m, n1, fun h2 m2 hn2 sb => ?_⟩
    obtain ⟨B', b1, b2⟩ := restrict B fun b => decide (b ≠ ce.locals)
    obtain ⟨G', g1, g2⟩ := restrict sI.heap fun b => decide (b ≠ ce.locals)
    have bne : ∀ b, b ≠ ce.locals → B'.get? b = B.get? b := fun b hb => b1 b (decide_eq_true hb)
    have bno : ∀ b, B.get? b = none → B'.get? b = none := fun b hb => by
      by_cases z : b = ce.locals
      · exact b2 b (decide_eq_false fun q => q z)
      · rw [bne b z]; exact hb
    have bof : ∀ b o, B'.get? b = some o → b ≠ ce.locals ∧ B.get? b = some o := fun b o hb => by
      by_cases z : b = ce.locals
      · rw [b2 b (decide_eq_false fun q => q z)] at hb; cases hb
      · exact ⟨z, by rw [← bne b z]; exact hb⟩
    obtain ⟨k1, k2, k3, oe, vs, T, oT, ts, ge, hz, gd, t1, bT, neT, gT, dT, t3⟩ := hh
    obtain ⟨oL, es, ep, gL, dL, _⟩ := n1
    have ner : ∀ b o ws, h1.get? b = some o → o.data = .fields ws → b ≠ ce.locals := fun b o ws hb hw z => by
      rw [z, gL] at hb
      cases hb
      rw [dL] at hw
      cases hw
    have aC := ner a oe vs ge gd
    have tC := ner T oT ts gT dT
    have held : HandSPX.HeldZ B' (X.env :: X.outer) a (Zc cls d) X.env.locals h2 := by
      refine ⟨fun b o hb => ?_, bno a k2, funFrames_none (Heap.FunFrames.sameBut sb hn2 k3) fun l hl => bno l (k3.mem hl).1, oe, vs, T, oT, ts, ?_, hz, gd, t1, bno T bT, neT, ?_, dT, t3⟩
      · obtain ⟨z1, z2⟩ := bof b o hb
        rw [sb.2 b z1]
        exact k1 b o z2
      · rw [sb.2 a aC]; exact ge
      · rw [sb.2 T tC]; exact gT
    unfold PySem.passOn
    refine wpAny_bind (wpAny_field (by rw [sb.2 a aC]; exact ge) gd t1 ?_)
    rw [if_neg (by simp), hfr, hf]
    refine wpAny_bind (HandSPX.setFlight_onZ held fun h3 hh3 up3 => wpAny_throw (tk _ _ ?_))
    have gof : ∀ b o, G'.get? b = some o → b ≠ ce.locals ∧ sI.heap.get? b = some o := fun b o hb => by
      by_cases z : b = ce.locals
      · rw [g2 b (decide_eq_false fun q => q z)] at hb; cases hb
      · exact ⟨z, by rw [← g1 b (decide_eq_true z)]; exact hb⟩
    refine ⟨a, B', { sI with heap := G' }, pins, σ, H6, cls, d, rfl, ?_, fun b o hb hst => ?_, fun b o hb hw => ?_, .inr (.inr ?_), na, os, ag, w⟩
    · exact I7.turned (t' := sI.toks) (it := ce.locals) (fun b o hb e => by rw [g1 b (decide_eq_true hb)]; exact e) nC c1 c3 c4 c5
    · obtain ⟨z1, z2⟩ := gof b o hb
      rw [bne b z1]
      exact nb b o z2 hst
    · obtain ⟨z1, z2⟩ := gof b o hb
      obtain ⟨l1, e1⟩ := up b o z2 hw
      obtain ⟨l2, e2⟩ := up1 b _ e1 hw
      have e3 : h2.get? b = some { o with slots := l2 } := by rw [sb.2 b z1]; exact e2
      obtain ⟨l3, e4⟩ := up3 b { o with slots := l2 } e3 hw
      exact ⟨l3, e4⟩
    · rw [hs]; exact hh3
  rcases sky with ⟨hB, hb, hl, oe, vs, he, hz, hd, h1⟩ | fl | hh
  · exact HandSPX.look_newZ Zc.steady frm hl hf he hB hb hd h1 hz fin
  · exact HandSPX.looks_onZ Zc.steady frm hf fl fin
  · exact note_any Zc.steady frm hf hh fin

theorem ps_setX {X : Cx} {E : XK} {i : Nat} {y : Str} {py pos spos : Pos} {elt tg iter : Expr} {scope : Scope} {own : List (Str × Nat)} {wi : TI} {g : TG} {te : TE} (hs : X.stack = X.env :: X.outer) (hf : X.env.frame = some X.env.locals) (tk : Takes X (fun cls d _ H => E cls d H))
    (hc : X.calm = true) (hN : X.N.Nodup) (hy : X.N[i]? = some y) (hyl : X.env.scope.names.lookup y = some .local)
    (hsw : swapsWith (.ListComp elt [⟨tg, iter, [], 0⟩] scope pos) (some (.Name y py)) spos.line X.env = pure true) (hi : PI X tg iter wi) (bo : BlkOk X.N X.env.scope scope own)
    (hb : ∀ (s : Shared) (H : Hp) (L : Addr) (cl : List (Str × Addr)) (fp : List Addr) (xb : Value → Shared → Prop), Takes (blkX X s H scope (compEnvC scope cl L X.env) fp xb) (fun cls d _ H => E cls d H) →
      PG (blkX X s H scope (compEnvC scope cl L X.env) fp xb) tg g ∧ PE (blkX X s H scope (compEnvC scope cl L X.env) fp xb) elt te)
    (hset : ∀ x, foldedSetIterable iter X.env x = pure x) :
    PS X (.Assign [.Name y py] (.ListComp elt [⟨tg, iter, [], 0⟩] scope pos) spos) (tAsg (tLc wi g tYes te (own.map (·.2))) (gName i)) := by
  refine ⟨fun pins s σ H D I h => ?_⟩
  have hfree : ∀ z ∈ scope.names, z.2 = .free → ∃ c, X.env.cells.lookup z.1 = some c := fun z hz e => by
    rcases bo.free z hz e with k | k
    · exact I.ok.has _ (.inl k)
    · exact I.ok.has _ (.inr k)
  have h : tLc wi g tYes te (own.map (·.2)) σ H (fun x H1 => gName i x σ H1 D.nx) := h
  rw [exec_Assign_Name_used _ _ _ _ hsw]
  refine wpAny_bind (wpAny_standAt (wpAny_bind ?_))
  refine wpAny_bind (thn (Q := fun _ s' => SP X pins D .next s') ?_ fun _ s' hq => wpAny_pure (wpAny_pure hq))
  refine comprehension_at (use := some (assign (.Name y py) X.env)) rfl hset (closure_ok hfree) bo.kind (fun z hz e => by rw [bo.uniq z hz, e])
    (thn (hi.run pins s σ H _ I h) fun xv s1 hx => thn hx fun itv s2 h2 => ?_)
  obtain ⟨it, fp, tn, J, H2, rfl, I2, T, st2, f2, q⟩ := h2
  refine wpAny_newObj_type (newEnv_comp ?_) (by show 0 ≤ sizeLine; decide)
  generalize eD : s2.heap.objs.size = L0
  have hDn : H2 L0 = none := I2.hok.fresh (Nat.le_of_eq eD)
  obtain ⟨W, ⟨m0, w0⟩, turn⟩ := q L0 hDn
  generalize e3 : ({ s2 with heap := s2.heap.push { cls := .type "list", data := .seq ([] : List Value).toArray } } : Shared) = s3
  have heap3 : s3.heap = s2.heap.push { cls := .type "list", data := .seq ([] : List Value).toArray } := by rw [← e3]
  have I3 : L2.Inv X pins σ (upd H2 L0 (.lst [])) s3 := by
    rw [← e3]
    refine I2.laid (t' := s2.toks) (fun b o e => Heap.get?_push_of_some _ e) (Nat.le_of_eq eD) ⟨Nat.zero_le _, [], 0, .nil, ?_⟩
    rw [← eD]
    exact Heap.get?_push_size _ rfl
  have small : ∀ b ∈ fp, b < s2.heap.objs.size := fun b hb => by
    obtain ⟨o, e, _⟩ := T.obj _ _ st2 b hb
    exact Heap.lt_size e
  have f3 : ∀ b ∈ fp, FpOk X pins (upd H2 L0 (.lst [])) b ∧ b < s3.heap.objs.size := fun b hb => by
    have hlt := small b hb
    refine ⟨⟨?_, (f2 b hb).2⟩, by rw [heap3, Heap.size_push]; exact Nat.lt_succ_of_lt hlt⟩
    rw [upd_ne (by rw [← eD]; exact Nat.ne_of_lt hlt)]
    exact (f2 b hb).1
  have st3 : tn 0 s3.heap := T.keep _ _ _ st2 fun b _ o e => by rw [heap3]; exact Heap.get?_push_of_some _ e
  have B0 := block_start I3 bo hN f3
  show codeAny _ _ (.compStart (.ListComp elt [⟨tg, iter, [], 0⟩] scope pos) 0 (.ref it) (.ref L0) (compEnvC scope (cellsFrom (s3.heap.objs.size + 1) scope.names (cloFrom X.env.cells scope.names [])) s3.heap.objs.size X.env)) (compEnds (model X.prog X.w) X.A X.xe (some (assign (.Name y py) X.env)) (fun _ s' => SP X pins D .next s') (.ref L0) (compEnvC scope (cellsFrom (s3.heap.objs.size + 1) scope.names (cloFrom X.env.cells scope.names [])) s3.heap.objs.size X.env)) { s3 with heap := pushCells (s3.heap.push { cls := .type "dict", data := .dict #[] }) scope.names }
  have bb := hb s3 (upd H2 L0 (.lst [])) s3.heap.objs.size (cellsFrom (s3.heap.objs.size + 1) scope.names (cloFrom X.env.cells scope.names [])) fp
  generalize ece : compEnvC scope (cellsFrom (s3.heap.objs.size + 1) scope.names (cloFrom X.env.cells scope.names [])) s3.heap.objs.size X.env = ce at B0 bb ⊢
  have cL : ce.locals = s3.heap.objs.size := by subst ece; rfl
  have cF : ce.frame = X.env.frame := by subst ece; rfl
  have tkb : Takes (blkX X s3 (upd H2 L0 (.lst [])) scope ce fp (outB X ce)) (fun cls d _ H => E cls d H) := comp_takes hs hf tk I3 f3 cL cF
  obtain ⟨pg, pe⟩ := bb (outB X ce) tkb
  have nfp : ∀ b ∈ fp, (upd H2 L0 (.lst [])) b = none := fun b hb => (f3 b hb).1.1
  have B0 : L2.Inv (blkX X s3 (upd H2 L0 (.lst [])) scope ce fp (outB X ce)) [] (wipe σ (own.map (·.2))) (upd H2 L0 (.lst [])) _ := Inv.toX B0
  generalize eH3 : upd H2 L0 (.lst []) = H3 at I3 B0 pg pe w0 nfp f3
  generalize e4 : ({ s3 with heap := pushCells (s3.heap.push { cls := .type "dict", data := .dict #[] }) scope.names } : Shared) = s4 at B0 ⊢
  have st4 : tn 0 s4.heap := T.keep _ _ _ st3 fun b _ o e => by rw [← e4]; exact pushCells_keeps _ _ _ _ (Heap.get?_push_of_some _ e)
  generalize eX : blkX X s3 H3 scope ce fp (outB X ce) = Xb at B0 pg pe
  have still : ∀ {σ' : L2.St} {H' : Hp} {s' : Shared}, L2.Inv Xb [] σ' H' s' → (∀ b ∈ fp, H' b = none) → ∀ b ∈ fp, FpOk Xb [] H' b := fun {σ' H' s'} I' hn b hb => by
    subst eX
    exact ⟨hn b hb, (I'.ok.exf b hb).1, I'.ok.exfs b hb, .inl hb, fun x c e => (I'.ok.exf b hb).2 x c e, fun p hp => absurd (show p ∈ ([] : List (Addr × Obj)) ++ [] from hp) (by simp)⟩
  have hp : Xb.prog = X.prog := by rw [← eX]
  have hw : Xb.w = X.w := by rw [← eX]
  have hA : Xb.A = X.A := by rw [← eX]
  have hK : Xb.K = X.K := by rw [← eX]
  have hx : Xb.xe = outB X ce := by rw [← eX]
  have loop : codeAny (model X.prog X.w) X.A (.compLoop (.ListComp elt [⟨tg, iter, [], 0⟩] scope pos) 0 (.ref it) (.ref L0) ce) (compEnds (model X.prog X.w) X.A X.xe (some (assign (.Name y py) X.env)) (fun _ s' => SP X pins D .next s') (.ref L0) ce) s4 := by
    refine compLoop_any (fun k s' => ∃ j H', L2.Inv Xb [] (wipe σ (own.map (·.2))) H' s' ∧ tn j s'.heap ∧ (∀ b ∈ fp, H' b = none) ∧ W j k H') ?_ m0 ⟨0, H3, B0, st4, nfp, w0⟩
    rintro k s5 ⟨j, H5, I5, st5, n5, w5⟩
    subst eX
    rcases turn j k H5 w5 with ⟨stop, qq⟩ | ⟨go, Nx, hNx, step⟩
    · refine thnF (T.done (blkX X s3 H3 scope ce fp (outB X ce)) rfl rfl rfl hc j [] s5 _ H5 (fun _ _ => False) I5 (still I5 n5) st5 stop) fun r s6 ⟨hr, I6⟩ => ?_
      subst hr
      have J7 : L2.Inv X pins σ H5 s6 := I3.call' (ch := fp) I6.os I6.base I6.hok I6.bare fun b hb => by
        obtain ⟨_, q1, _, q2, q3, q4⟩ := (f3 b hb).1
        exact ⟨q2, q1, q3, q4⟩
      have nC : H5 ce.locals = none := I6.free
      obtain ⟨m, hn, _⟩ := I6.loc
      have hn : s6.heap.Ns ce.locals m := hn
      obtain ⟨z0, z1, z2, z3, z4, z5⟩ := I3.fpOk (b := ce.locals) (H' := H5) (by rw [cL]; exact Nat.le_refl _) nC
      show wpAny _ _ (assign (.Name y py) X.env (.ref L0)) _ _ _
      refine wpAny_assign_Name (store_ok2 (v := V.ref L0) J7 hN hy (.inl hyl) rfl (fun s7 I7 ⟨a, sb, ha⟩ => ?_) (.inr hyl))
      have neC : ce.locals ≠ a := by
        rcases ha with e | e
        · rw [e]; exact z1
        · exact fun e' => z4 y a e e'.symm
      exact ⟨m, hn.sameBut sb neC, fun h3 sb3 => ⟨_, H5, I7.turned (t' := s7.toks) (fun b o hb e => (sb3.2 b hb).trans e) z0 z1 z3 z4 z5, qq⟩⟩
    · refine thnF (T.item (blkX X s3 H3 scope ce fp (outB X ce)) rfl rfl rfl hc j [] s5 _ H5 (fun _ _ => False) I5 (still I5 n5) st5 go) fun r s6 ⟨u, hr, h6⟩ => ?_
      subst hr
      refine thnF h6 fun _ s7 ⟨x, H7, I7, r7, y7, st7, n7⟩ => ?_
      have P7 := I7.pinned (still I7 n7) (T.obj _ _ st7)
      refine thn (pg.run _ s7 _ H7 x u _ P7 r7 (step x H7 y7)) fun _ s8 ⟨σ8, H8, I8, hw8, q8⟩ => ?_
      have q8 : te σ8 H8 fun yv H4 => ∃ acc, H4 L0 = some (.lst acc) ∧ acc.length < sizeLine ∧ Nx (upd H4 L0 (.lst (acc ++ [yv]))) := by
        have q8 : tYes σ8 H8 _ := q8
        simpa [tYes] using q8
      refine wpAny_tests_nil ?_
      rw [if_pos rfl]
      refine thn (pe.run _ s8 σ8 H8 _ I8 q8) fun z s10 ⟨yv, H10, I10, r10, acc, hD10, hz10, nx⟩ => ?_
      refine app_ok (X := blkX X s3 H3 scope ce fp (outB X ce)) I10 hD10 hz10 r10 fun s11 I11 => ?_
      obtain ⟨m', hm, w'⟩ := hNx _ nx
      have kept : ∀ b ∈ fp, ∀ o, s7.heap.get? b = some o → s11.heap.get? b = some o ∧ (upd H10 L0 (.lst (acc ++ [yv]))) b = none := fun b hb o e =>
        let z := I11.pin (b, o) (List.mem_append_right _ (List.mem_append_right _ (mem_pinsAt hb e)))
        ⟨z.1, z.2.1⟩
      have hl : (wipe σ (own.map (·.2))).length = σ8.length := by rw [← hw8, wipe_length]
      refine ⟨m', hm, j + 1, _, (I11.unpinned (pins := [])).weak hl (fun jj v e => ?_), T.keep _ _ _ st7 fun b hb o e => (kept b hb o e).1, fun b hb => ?_, w'⟩
      · rw [← hw8] at e
        exact (wipe_some e).1
      · obtain ⟨o, e, _⟩ := T.obj _ _ st7 b hb
        exact (kept b hb o e).2
  exact codeAny_compStart_list loop (T.self X.A 0 _ _ _ st4 loop)
end Mf
set_option Elab.async false
set_option linter.all false
set_option maxRecDepth 100000
set_option maxHeartbeats 2000000
namespace Mf
open PySem L2
theorem lcX_ok {S : Type} {tg : Tg} {elt : CE S} {ρ : List SV} {d : D} {s s' : S} {o : Option D} (h : lcX tg elt ρ d s = .ok o s') : ∃ ρ' y, asgT tg d ρ = some ρ' ∧ ev elt ρ' s = .ok y s' ∧ y.1 ≠ .o ∧ o = some y.2 := by
  unfold lcX at h
  split at h
  · cases h
  · rename_i ρ' e
    obtain ⟨y, s2, h3, h4⟩ := bind_ok h
    obtain ⟨e', s3, h5, h6⟩ := bind_ok h4
    obtain ⟨h7, h8, h9⟩ := dat_ok h5
    subst h8 h9
    cases h6
    exact ⟨ρ', y, e, h3, h7, rfl⟩
theorem lcX_ex {S : Type} {tg : Tg} {elt : CE S} {ρ : List SV} {d : D} {s s' : S} {x : Str} (h : lcX tg elt ρ d s = .ex x s') : ∃ ρ', asgT tg d ρ = some ρ' ∧ ev elt ρ' s = .ex x s' := by
  unfold lcX at h
  split at h
  · cases h
  · rename_i ρ' e
    refine ⟨ρ', e, ?_⟩
    cases hv : ev elt ρ' s with
    | ok y s2 =>
      rw [hv] at h
      obtain ⟨k3, dd⟩ := y
      cases k3 <;> cases h
    | ex z s2 =>
      rw [hv] at h
      cases h
      rfl
    | er => rw [hv] at h; cases h
section
variable {Y : Sys} {K : PySem.W.Frag} {mg : Str → Option Value} {E : XK}
def WEnd (E : XK) (mg : Str → Option Value) (K : PySem.W.Frag) (c1 : Cf Y) (Q : VK) (done : List D) : Res Y.S (List D) → Prop
  | .ok r s' => ∀ v (c' : Cf Y), c'.s = s' → Step c1 c' → Ok c' → Is K c1.H c' .t v (.lst (done ++ r)) → Q v c'.H
  | .ex x s' => ∀ C (c' : Cf Y), mg x = some (.ref C) → c'.s = s' → Step c1 c' → Ok c' → E (.ref C) none c'.H
  | .er => False
theorem lcx_use {it : CI Y.S} {tg : Tg} {elt : CE Y.S} {vs : List Nat} (hz : zipI it = true → consT tg = true) (hsl : ∀ i ∈ slots tg, i ∈ vs) {σ : L2.St} {H : Hp} {Q : VK} (h : tR K mg (WofE E) (JE K) (evX it tg elt vs) σ H Q) :
    tLc (tI K mg (WofE E) false it) (gT K tg) tYes (tE K mg (WofE E) elt) vs σ H Q := by
  obtain ⟨c, H0, ρ, rfl, ok, rel, p⟩ := h
  have p : Post mg (WofE E) σ c (JE K c) Q ((evI false it ρ c.s).bind fun ds s => if !lenOk ds.length then .er else (walkR (lcX tg elt (wipeR ρ vs)) ds s).bind fun r s => .ok (.t, .lst r) s) := p
  refine tR.bind ok rel p fun J c1 ds ea t1 ok1 rel1 j1 p1 => ?_
  obtain ⟨G, gd, hG⟩ := j1
  intro L hL
  have p1 := p1.shiftE t1 ok1
  split at p1
  · exact p1.elim
  rename_i hlen
  have hlen : lenOk ds.length = true := by simpa using hlen
  have pe : WEnd E mg K c1 Q [] (walkR (lcX tg elt (wipeR ρ vs)) ds c1.s) := by
    cases ew : walkR (lcX tg elt (wipeR ρ vs)) ds c1.s with
    | er => rw [ew] at p1; exact p1
    | ex x s' => rw [ew] at p1; exact p1
    | ok r s' => rw [ew] at p1; exact p1
  refine ⟨fun i m H => m = ds.length - i ∧ i ≤ ds.length ∧ ∃ (cc : Cf Y) (acc : List V) (done : List D), cc.H = H ∧ Ok cc ∧ Step c1 cc ∧ cc.H L = some (.lst acc) ∧ cc.F L = none ∧ ¬ Y.dm cc.g L ∧ Reps K cc.F acc done ∧ acc.length ≤ i ∧
      WEnd E mg K c1 Q done (walkR (lcX tg elt (wipeR ρ vs)) (ds.drop i) cc.s),
      ⟨ds.length, rfl, Nat.zero_le _, ⟨c1.F, upd c1.H L (.lst []), c1.s, c1.g⟩, [], [], rfl, ok1.own hL _, Step.own ok1 hL _, upd_same, ok1.fr hL, fun z => ok1.has L z hL, .nil, Nat.le_refl _, pe⟩, fun i m H hW => ?_⟩
  obtain ⟨rfl, hi, cc, acc, done, rfl, okc, tc, hacc, hF, hnd, racc, hal, hw⟩ := hW
  by_cases hlt : i < ds.length
  · have hd : ds[i]? = some ds[i] := List.getElem?_eq_getElem hlt
    have edrop : ds.drop i = ds[i] :: ds.drop (i + 1) := List.drop_eq_getElem_cons hlt
    rw [edrop] at hw
    obtain ⟨go, yl⟩ := (gd cc (hG cc (by rw [if_neg Bool.false_ne_true]; exact tc)) okc i).2 _ hd
    refine .inr ⟨go, fun H' => ds.length - (i + 1) = ds.length - (i + 1) ∧ i + 1 ≤ ds.length ∧ ∃ (cc : Cf Y) (acc : List V) (done : List D), cc.H = H' ∧ Ok cc ∧ Step c1 cc ∧ cc.H L = some (.lst acc) ∧ cc.F L = none ∧ ¬ Y.dm cc.g L ∧ Reps K cc.F acc done ∧ acc.length ≤ i + 1 ∧
        WEnd E mg K c1 Q done (walkR (lcX tg elt (wipeR ρ vs)) (ds.drop (i + 1)) cc.s), fun H' hN => ⟨ds.length - (i + 1), by omega, hN⟩, fun x H' hy => ?_⟩
    obtain ⟨c2, rfl, es2, t2, ok2, rx⟩ := yl x H' hy
    have rel2 : Rel K H0 c2 (wipe σ vs) (wipeR ρ vs) := (rel1.step (tc.trans okc t2)).wipe vs
    have obL : cc.H L ≠ none := by rw [hacc]; exact fun z => nomatch z
    cases ew : lcX tg elt (wipeR ρ vs) ds[i] cc.s with
    | er =>
      unfold walkR at hw
      rw [ew] at hw
      exact hw.elim
    | ex x s' =>
      obtain ⟨ρ', a1, a2⟩ := lcX_ex ew
      have hw : WEnd E mg K c1 Q done (.ex x s') := by
        unfold walkR at hw
        rw [ew] at hw
        exact hw
      refine gT_any ok2 hz a1 rel2 rx fun σ' rel' l' s' => ⟨?_, ?_⟩
      · rw [← wipe_wipe (σ := σ) (vs := vs)]
        exact wipe_ext l' fun j hj => s' j fun z => hj (hsl j z)
      · unfold tYes
        show if true = true then _ else _
        rw [if_pos rfl]
        refine ⟨c2, H0, ρ', rfl, ok2, rel', ?_⟩
        rw [es2, a2]
        intro C c3 e1 e2 t3 ok3
        exact hw C c3 e1 e2 (tc.trans okc (t2.trans ok2 t3)) ok3
    | ok o s1 =>
      obtain ⟨ρ', y, a1, a2, a3, a4⟩ := lcX_ok ew
      have hw : WEnd E mg K c1 Q (done ++ [y.2]) (walkR (lcX tg elt (wipeR ρ vs)) (ds.drop (i + 1)) s1) := by
        have e0 : walkR (lcX tg elt (wipeR ρ vs)) (ds[i] :: ds.drop (i + 1)) cc.s = (walkR (lcX tg elt (wipeR ρ vs)) (ds.drop (i + 1)) s1).bind fun r s2 => .ok (o.toList ++ r) s2 := by
          conv => lhs; unfold walkR
          rw [ew]; rfl
        rw [e0, a4] at hw
        cases e5 : walkR (lcX tg elt (wipeR ρ vs)) (ds.drop (i + 1)) s1 with
        | er => rw [e5] at hw; exact hw
        | ex x s' => rw [e5] at hw; exact hw
        | ok r s' =>
          rw [e5] at hw
          intro v c' q1 q2 q3 q4
          rw [List.append_assoc] at q4
          exact hw v c' q1 q2 q3 q4
      refine gT_any ok2 hz a1 rel2 rx fun σ' rel' l' s' => ⟨?_, ?_⟩
      · rw [← wipe_wipe (σ := σ) (vs := vs)]
        exact wipe_ext l' fun j hj => s' j fun z => hj (hsl j z)
      · unfold tYes
        show if true = true then _ else _
        rw [if_pos rfl]
        refine ⟨c2, H0, ρ', rfl, ok2, rel', ?_⟩
        rw [es2, a2]
        intro v c4 es4 t4 ok4 j4
        obtain ⟨c5, es5, eh5, t5, ok5, r5⟩ := Is.data j4 a3 t4 ok4
        have T : Step cc c5 := t2.trans ok2 t5
        have hacc5 : c5.H L = some (.lst acc) := T.h L _ hacc hnd
        have hF5 : c5.F L = none := T.n L obL hF
        have hnd5 : ¬ Y.dm c5.g L := fun z => hnd (T.g L obL z)
        rw [← eh5]
        refine ⟨acc, hacc5, ?_, rfl, hlt, ⟨c5.F, upd c5.H L (.lst (acc ++ [v])), c5.s, c5.g⟩, acc ++ [v], done ++ [y.2], rfl, ok5.mut hF5 hnd5 _, (tc.trans okc T).mut hL _, upd_same, hF5, hnd5, (racc.mono T.f).append (.cons r5 .nil), ?_, ?_⟩
        · have := of_decide_eq_true hlen
          have e : sizeLine = 16777216 := by decide
          omega
        · rw [List.length_append, List.length_singleton]
          omega
        · rw [es5, es4]
          exact hw
  · have ei : i = ds.length := by omega
    subst ei
    rw [List.drop_length] at hw
    have hw : ∀ v (c' : Cf Y), c'.s = cc.s → Step c1 c' → Ok c' → Is K c1.H c' .t v (.lst (done ++ [])) → Q v c'.H := hw
    have st := (gd cc (hG cc (by rw [if_neg Bool.false_ne_true]; exact tc)) okc ds.length).1 (Nat.le_refl _)
    refine .inl ⟨st, hw (.ref L) cc rfl tc okc ?_⟩
    rw [List.append_nil]
    exact ⟨L, rfl, ⟨⟨acc, hacc, racc⟩, hF, hnd⟩, hL⟩
end
section
variable {X : Cx} {Y : Sys} {E : XK} {n : Nat} {N : List Str} {sc scope : Scope} {pos spos px : Pos} {tg' iter' elt' : Expr} {it : CI Y.S} {tg : Tg} {elt : CE Y.S} {vs : List Nat}
theorem asgx_use {i : Nat} {D : Ends} {σ : L2.St} {H : Hp} (h : tS (Y := Y) X.K X.mg E (run (.asgx i it tg elt vs)) D σ H) : tAsg (tR X.K X.mg (WofE E) (JE X.K) (evX it tg elt vs)) (gName i) D σ H := by
  obtain ⟨c0, F0, c, ρ, rfl, t0, sb, ok, rel, p⟩ := h
  have p : PostS X.K X.mg E c0 F0 D ((evX it tg elt vs ρ c.s).ob fun x s => onO (stow false x) fun v => onO (put ρ i v) fun ρ' => .nx ρ' s) := p
  refine tR.ob t0 ok rel p fun v c1 x t1 ok1 rel1 j1 p1 => ?_
  obtain ⟨u, hu, p1⟩ := p1.onO
  obtain ⟨ρ', hp, p1⟩ := p1.onO
  obtain ⟨eu, c2, e1, e2, t2, ok2, hd⟩ := hold_of hu t1 ok1 j1
  rw [eu] at hp
  rw [← e2]
  exact p1 _ c2 e1 (t0.trans ok t2) (sb.trans t2.f) ok2 ((rel.step t2).hold hd (fun m e q h1 h2 => rel.ex m e q h1 h2) (fun q z => t0.back ok z) hp)
theorem ss_asgx {i : Nat} {x : Str} (C : SCxt X E n N sc) (h1 : (N[i]? == some x) = true) (h2 : swB sc x px (.ListComp elt' [⟨tg', iter', [], 0⟩] scope pos) = true) (hz : zipI it = true → consT tg = true) (hI : PI X tg' iter' (tI X.K X.mg (WofE E) false it)) (hset : notSet iter' = true) (hblk : blkC N sc scope (vs.map fun i => (N.getD i "", i)) = true) (hsl : (slots tg).all (fun i => vs.contains i) = true)
    (hT : chkT N (relS scope sc) (fun x => scope.names.lookup x == some .cell) tg tg' = true)
    (hE : ∀ X' : Cx, X'.prog = X.prog → X'.w = X.w → X'.K = X.K → X'.mg = X.mg → X'.base = X.base → Cxt X' (WofE E) n N (relS scope sc) → PE X' elt' (tE X.K X.mg (WofE E) elt)) :
    PS X (.Assign [.Name x px] (.ListComp elt' [⟨tg', iter', [], 0⟩] scope pos) spos) (tS (Y := Y) X.K X.mg E (run (.asgx i it tg elt vs))) := by
  have hsl' : ∀ i ∈ slots tg, i ∈ vs := fun i hi => List.contains_iff_mem.mp (List.all_eq_true.mp hsl i hi)
  have bo : BlkOk X.N X.env.scope scope (vs.map fun i => (N.getD i "", i)) := by
    rw [C.hN, C.hs]
    exact blkOk_by hblk
  have hlx : sc.names.lookup x = some .local := by
    unfold swB at h2
    simp only [Bool.and_eq_true, decide_eq_true_eq] at h2
    exact h2.1.1
  have q := ps_setX (X := X) (E := E) (i := i) (y := x) (py := px) (pos := pos) (spos := spos) (own := vs.map fun i => (N.getD i "", i)) (g := gT X.K tg) (te := tE X.K X.mg (WofE E) elt) C.stk C.fr C.tk C.calm (by rw [C.hN]; exact C.nd) (by rw [C.hN]; exact beq_iff_eq.mp h1) (by rw [C.hs]; exact hlx) (sw_lc C h2) hI bo
    (fun s H L cl fp xb tkb => by
      have Cb : Cxt (blkX X s H scope (compEnvC scope cl L X.env) fp xb) (WofE E) n N (relS scope sc) := ⟨C.hN, by rw [← C.hs]; rfl, C.nd, C.calm, C.room, tkb, ⟨E, rfl⟩, C.blt⟩
      exact ⟨pg_ok (X := blkX X s H scope (compEnvC scope cl L X.env) fp xb) C.hN Cb.hs C.nd C.calm rfl hT, hE _ rfl rfl rfl rfl rfl Cb⟩) (set_ok hset)
  rw [own_snd] at q
  exact ⟨fun pins s σ H D I h => q.run pins s σ H D I (lcx_use hz hsl' (asgx_use h))⟩
end
end Mf
set_option Elab.async false
set_option linter.all false
set_option maxRecDepth 100000
set_option maxHeartbeats 2000000
namespace Mf
open PySem L2

section
variable {Y : Sys} {n : Nat} {N : List Str} {sc : Scope} {E : XK}
mutual
theorem soundS {X : Cx} (C : SCxt X E n N sc) : ∀ (c : CS Y.S) (st : Stmt), chkS N sc c st = true → needS (Pn X Y n) (Glb X.K X.mg) c → PS X st (tS X.K X.mg E (run c))
  | .asg own i e, st, h, g => by
    unfold chkS at h
    split at h
    · rename_i x px e' pos
      simp only [Bool.and_eq_true] at h
      obtain ⟨⟨⟨⟨h1, h2⟩, h3⟩, h4⟩, h5⟩ := h
      by_cases hsw : swB sc x px e' = true
      · cases e' <;> first | cases hsw | skip
        rename_i elt' gs scope p1
        have hlx : sc.names.lookup x = some .local := by
          unfold swB at hsw
          simp only [Bool.and_eq_true, decide_eq_true_eq] at hsw
          exact hsw.1.1
        cases e with
        | lc it tg ifs elt vs =>
          unfold chkE at h4
          split at h4
          · rename_i elt2 tg2 iter2 ifs2 scope2 pos2 heq
            cases heq
            simp only [Bool.and_eq_true] at h4
            obtain ⟨⟨⟨⟨⟨⟨k1, k2⟩, k3⟩, k4⟩, k5⟩, k6⟩, k7⟩ := h4
            have q := (se_lc (py := px) (spos := pos) (pos := p1) (ifs := ifs) (elt := elt) C.toCxt (zip_cons k1 k5) (soundI C.toCxt false it _ _ k1 g.1) k2 k3 k4 k5 (fun X' a1 a2 a3 a4 a5 C' => ?_) (fun X' a1 a2 a3 a4 a5 C' => ?_)).2 (beq_iff_eq.mp h1) hlx (sw_lc C hsw)
            · exact q.weak fun _ _ _ z => asg_use z
            · have q := soundC C' ifs _ k6 (by unfold Pn; rw [a1, a2, a3, a4, a5]; exact g.2.1)
              rw [a3, a4] at q
              exact q
            · have q := (sound C' elt _ k7 (by unfold Pn; rw [a1, a2, a3, a4, a5]; exact g.2.2)).pe
              rw [a3, a4] at q
              exact q
          · cases h4
        | lc2 it tg it1 tg1 elt vs vs1 =>
          unfold chkE at h4
          split at h4
          · rename_i elt2 tg2 iter2 tg12 iter12 scope2 pos2 heq
            cases heq
            simp only [Bool.and_eq_true] at h4
            obtain ⟨⟨⟨⟨⟨k1, k2⟩, k3⟩, k4⟩, k5⟩, ⟨⟨⟨⟨⟨m1, m2⟩, m3⟩, m4⟩, m5⟩, m6⟩⟩ := h4
            have q := (se_lc2 (py := px) (spos := pos) (pos := p1) (elt := elt) C.toCxt (zip_cons k1 k5) (zip_cons m1 m4) (soundI C.toCxt false it _ _ k1 g.1) k2 m2 k3 k4 m3 m5 k5 m4 (fun X' a1 a2 a3 a4 a5 C' => ?_) (fun X' a1 a2 a3 a4 a5 C' => ?_) (fun X' a1 a2 a3 a4 a5 C' => ?_)).2 (beq_iff_eq.mp h1) hlx (sw_lc C hsw)
            · exact q.weak fun _ _ _ z => asg_use z
            · exact pts_noIf X' X.K X.mg
            · have q := soundI C' true it1 _ _ m1 (by unfold Pn; rw [a1, a2, a3, a4, a5]; exact g.2.1)
              rw [a3, a4] at q
              exact q
            · have q := (sound C' elt _ m6 (by unfold Pn; rw [a1, a2, a3, a4, a5]; exact g.2.2)).pe
              rw [a3, a4] at q
              exact q
          · cases h4
        | stx f _ => cases f <;> (unfold chkE at h4; cases h4)
        | _ => unfold chkE at h4; cases h4
      · refine ss_asg C h1 h2 h3 ?_ (sound C.toCxt e _ h4 g).pe
        rw [Bool.not_eq_true] at hsw
        rw [hsw, Bool.or_false] at h5
        exact h5
    · cases h
  | .asgU tg e, st, h, g => by
    unfold chkS at h
    split at h
    · simp only [Bool.and_eq_true] at h
      obtain ⟨⟨⟨⟨h1, h2⟩, h3⟩, h4⟩, h5⟩ := h
      exact ss_asgU C h1 h3 h4 (sound C.toCxt e _ h5 g).pe
    · cases h
  | .asgT tg e, st, h, g => by
    unfold chkS at h
    split at h
    · simp only [Bool.and_eq_true] at h
      obtain ⟨⟨⟨⟨h1, h2⟩, h3⟩, h4⟩, h5⟩ := h
      exact ss_asgT C h1 h3 h4 (sound C.toCxt e _ h5 g).pe
    · cases h
  | .par oi oj i j a b, st, h, g => by
    unfold chkS at h
    split at h
    · simp only [Bool.and_eq_true] at h
      obtain ⟨⟨⟨⟨h1, h2⟩, h3⟩, h4⟩, h5⟩ := h
      exact ss_par C h1 h2 h3 (sound C.toCxt a _ h4 g.1).pe (sound C.toCxt b _ h5 g.2).pe
    · cases h
  | .ret e, st, h, g => by
    unfold chkS at h
    split at h
    · exact ss_ret (sound C.toCxt e _ h g).pe
    · cases h
  | .retN, st, h, g => by
    unfold chkS at h
    split at h
    · exact ss_retN
    · cases h
  | .expr e, st, h, g => by
    unfold chkS at h
    split at h
    · simp only [Bool.and_eq_true] at h
      exact ss_expr h.1 (sound C.toCxt e _ h.2 g).pe
    · cases h
  | .never, st, h, g => ss_never
  | .ife t a b, st, h, g => by
    unfold chkS at h
    split at h
    · simp only [Bool.and_eq_true] at h
      obtain ⟨⟨⟨h1, h2⟩, h3⟩, h4⟩ := h
      exact ss_ife ((sound C.toCxt t _ h2 g.1).pt h1) (soundSs C a _ h3 g.2.1) (soundSs C b _ h4 g.2.2)
    · cases h
  | .forr tg it body, st, h, g => by
    unfold chkS at h
    split at h
    · simp only [Bool.and_eq_true] at h
      obtain ⟨⟨⟨h1, h2⟩, h3⟩, h4⟩ := h
      exact ss_for C (zip_cons h3 h1) h1 h2 (soundI C.toCxt true it _ _ h3 g.1) (soundSs C body _ h4 g.2)
    · cases h
  | .whl t body fuel, st, h, g => by
    unfold chkS at h
    split at h
    · simp only [Bool.and_eq_true] at h
      obtain ⟨⟨h1, h2⟩, h3⟩ := h
      exact ss_whl C ((sound C.toCxt t _ h2 g.1).pt h1) (soundSs C body _ h3 g.2)
    · cases h
  | .app i e, st, h, g => by
    unfold chkS at h
    split at h
    · simp only [Bool.and_eq_true] at h
      obtain ⟨⟨⟨⟨⟨h1, h2⟩, h3⟩, h4⟩, h5⟩, h6⟩ := h
      have em := beq_iff_eq.mp h3
      subst em
      exact ss_app C h1 h2 h4 h5 (sound C.toCxt e _ h6 g).pe
    · cases h
  | .ext i e, st, h, g => by
    unfold chkS at h
    split at h
    · simp only [Bool.and_eq_true] at h
      obtain ⟨⟨⟨⟨⟨h1, h2⟩, h3⟩, h4⟩, h5⟩, h6⟩ := h
      have em := beq_iff_eq.mp h3
      subst em
      exact ss_ext C h1 h2 h4 h5 (sound C.toCxt e _ h6 g).pe
    · cases h
  | .rem i e, st, h, g => by
    unfold chkS at h
    split at h
    · simp only [Bool.and_eq_true] at h
      obtain ⟨⟨⟨⟨⟨h1, h2⟩, h3⟩, h4⟩, h5⟩, h6⟩ := h
      have em := beq_iff_eq.mp h3
      subst em
      exact ss_rem C h1 h2 h4 h5 (sound C.toCxt e _ h6 g).pe
    · cases h
  | .seti i k e, st, h, g => by
    unfold chkS at h
    split at h
    · simp only [Bool.and_eq_true] at h
      obtain ⟨⟨⟨⟨⟨h1, h2⟩, h3⟩, h4⟩, h5⟩, h6⟩ := h
      exact ss_seti C h1 h2 h3 h4 (sound C.toCxt k _ h5 g.1).pe (sound C.toCxt e _ h6 g.2).pe
    · cases h
  | .frz i c, st, h, g => ss_frz (soundS C c st h g)
  | .rse x, st, h, g => by
    unfold chkS at h
    split at h
    · simp only [Bool.and_eq_true] at h
      obtain ⟨⟨h1, h2⟩, h3⟩ := h
      have e1 := beq_iff_eq.mp h1
      subst e1
      exact ss_rse C g h2 h3
    · cases h
  | .asgx i it tg elt vs, st, h, g => by
    unfold chkS at h
    split at h
    · simp only [Bool.and_eq_true] at h
      obtain ⟨⟨⟨⟨⟨⟨⟨h1, h2⟩, h3⟩, h4⟩, h5⟩, h6⟩, h7⟩, h8⟩ := h
      refine ss_asgx C h1 h2 (zip_cons h3 h7) (soundI C.toCxt false it _ _ h3 g.1) h4 h5 h6 h7 fun X' a1 a2 a3 a4 a5 C' => ?_
      have q := (sound C' elt _ h8 (by unfold Pn; rw [a1, a2, a3, a4, a5]; exact g.2)).pe
      rw [a3, a4] at q
      exact q
    · cases h
  | .tryc i j k e, st, h, g => by
    unfold chkS at h
    split at h
    · simp only [Bool.and_eq_true, decide_eq_true_eq, Bool.not_eq_true'] at h
      obtain ⟨⟨⟨⟨⟨⟨⟨⟨⟨⟨⟨⟨h1, h2⟩, h3⟩, h4⟩, h5⟩, h6⟩, h7⟩, h8⟩, h9⟩, h10⟩, h11⟩, h12⟩, h13⟩ := h
      have e1 := beq_iff_eq.mp h6
      have e2 := beq_iff_eq.mp h12
      subst e1 e2
      exact ss_tryc C g.1.exc h1 h2 h3 h4 h7 h8 h9 h10 h11 h13 fun E' pn xe C' => (sound C'.toCxt e _ h5 g.2).pe
    · cases h
theorem soundSs {X : Cx} (C : SCxt X E n N sc) : ∀ (c : CSs Y.S) (st : List Stmt), chkSs N sc c st = true → needSs (Pn X Y n) (Glb X.K X.mg) c → PSs X st (tS X.K X.mg E (runs c))
  | .nil, st, h, g => by
    unfold chkSs at h
    split at h
    · exact ss_nil
    · cases h
  | .cons c cs, st, h, g => by
    unfold chkSs at h
    split at h
    · simp only [Bool.and_eq_true] at h
      exact ss_cons (soundS C c _ h.1 g.1) (soundSs C cs _ h.2 g.2)
    · cases h
end
end
theorem Rel.start {Y : Sys} {K : PySem.W.Frag} {c : Cf Y} {N : List Str} {vs : List V} {ds : List D} (r : Reps K c.F vs ds) : Rel K c.H c (L2.start N vs) (ds.map SV.va ++ List.replicate (N.length - ds.length) .no) where
  len := by
    unfold L2.start
    simp only [List.length_append, List.length_map, List.length_replicate, r.length]
  va := fun i d h => by
    by_cases hi : i < ds.length
    · rw [List.getElem?_append_left (by rw [List.length_map]; exact hi), List.getElem?_map] at h
      obtain ⟨d', h1, h2⟩ := Option.map_eq_some_iff.mp h
      cases h2
      obtain ⟨v, h3, h4⟩ := r.get h1
      refine ⟨v, ?_, h4⟩
      unfold L2.start
      rw [List.getElem?_append_left (by rw [List.length_map, r.length]; exact hi), List.getElem?_map, h3]
      rfl
    · rw [List.getElem?_append_right (by rw [List.length_map]; omega), List.getElem?_replicate] at h
      split at h <;> cases h
  ow := fun i d h => by
    by_cases hi : i < ds.length
    · rw [List.getElem?_append_left (by rw [List.length_map]; exact hi), List.getElem?_map] at h
      obtain ⟨d', h1, h2⟩ := Option.map_eq_some_iff.mp h
      cases h2
    · rw [List.getElem?_append_right (by rw [List.length_map]; omega), List.getElem?_replicate] at h
      split at h <;> cases h
  ap := fun i j d e p _ h => by
    by_cases hi : i < ds.length
    · rw [List.getElem?_append_left (by rw [List.length_map]; exact hi), List.getElem?_map] at h
      obtain ⟨d', h1, h2⟩ := Option.map_eq_some_iff.mp h
      cases h2
    · rw [List.getElem?_append_right (by rw [List.length_map]; omega), List.getElem?_replicate] at h
      split at h <;> cases h
section
variable {P : Program} {w : World} {K : PySem.W.Frag} {mg : Str → Option Value} {base : Heap} {Y : Sys} {n : Nat}
theorem fn_sound {x : Str} {st : Stmt} {f : Addr} {fd : FuncData} {N ps : List Str} {body : CSs Y.S} (F : Fun K x x st f fd) (S : FnScope N ps (defScope st)) (hm : mg x = some (.ref f)) (hb : Binds K fd ps []) (blt : ∀ y ∈ bltNames, mg y = none)
    (hc : chkSs N (defScope st) body (defBody st) = true) (g : needSs (fun x m g => Has P w K mg base Y n x m g) (Glb K mg) body) (h1000 : ps.length < 1000 := by decide) : Has P w K mg base Y (n + 1) x ps.length (fnR N.length body) := by
  refine HasF.mk ⟨f, fd, ps, rfl, ?_, hm, F.kp, hb⟩ h1000
  refine F.okX S (fun vs H Q E h => ?_) (fun cdv A outer s H vs Q E hr h => ?_)
  · obtain ⟨c, ds, _, _, _, h, _⟩ := h
    exact h
  · obtain ⟨c, ds, rfl, ok, rs, hl, h⟩ := h
    refine ⟨tS K mg E (runs body), ?_, ?_⟩
    · have C : SCxt (cxOf (L2.CX P w) P w K mg base N x (defScope st) f cdv A outer s c.H E) E n N (defScope st) :=
        { hN := rfl, hs := rfl, nd := S.nd, calm := rfl, room := hr, tk := takes_of rfl rfl rfl rfl, we := ⟨E, rfl⟩, blt := blt, po := passes_of rfl, fn := rfl, kd := S.kind, stk := rfl, fr := rfl, noex := rfl }
      exact soundSs C body _ hc g
    · refine ⟨c, c.F, c, _, rfl, Step.refl c, Sub.refl _, ok, Rel.start (N := N) rs, ?_⟩
      unfold fnR at h
      cases er : runs body (ds.map SV.va ++ List.replicate (N.length - ds.length) .no) c.s with
      | nx ρ s' =>
        rw [er] at h
        exact fun σ' c' e1 t1 _ ok1 _ => h .non c' e1 t1 ok1 .non
      | rt d s' =>
        rw [er] at h
        exact h
      | ex y s' =>
        rw [er] at h
        exact h
      | er => rw [er] at h; exact h
theorem never_sound {x : Str} {st : Stmt} {f : Addr} {fd : FuncData} {N ps : List Str} (F : Fun K x x st f fd) (S : FnScope N ps (defScope st)) (hm : mg x = some (.ref f)) (hb : Binds K fd ps []) (h1000 : ps.length < 1000 := by decide) : Has P w K mg base Y (n + 1) x ps.length (fun _ _ => .er) := by
  refine HasF.mk ⟨f, fd, ps, rfl, ?_, hm, F.kp, hb⟩ h1000
  have h0 : FnOk P w K mg base (L2.CX P w) (n + 1) f fd ps (spOf (Y := Y) K mg ps.length (fun _ _ => .er)) := by
    refine F.okX S (fun vs H Q E h => ?_) (fun cdv A outer s H vs Q E hr h => ?_)
    · obtain ⟨c, ds, _, _, _, h, _⟩ := h
      exact h
    · obtain ⟨c, ds, _, _, _, _, h⟩ := h
      exact h.elim
  exact h0
theorem Has.mono {x : Str} {m k : Nat} {g : Sem Y.S} (h : Has P w K mg base Y n x m g) (hk : n ≤ k) : Has P w K mg base Y k x m g := by
  refine ⟨fun e => ?_, h.fld, h.ins, fun e => ?_⟩
  · obtain ⟨f, fd, ps, hl, F, hm, hkp, hb⟩ := h.has e
    exact ⟨f, fd, ps, hl, F.mono hk, hm, hkp, hb⟩
  · obtain ⟨h1, C, f, fd, ps, a, b, hl, F, c⟩ := h.meth e
    exact ⟨h1, C, f, fd, ps, a, b, hl, F.mono hk, c⟩
end
end Mf
set_option Elab.async false
set_option linter.all false
set_option maxRecDepth 100000
set_option maxHeartbeats 2000000
namespace Mf
open PySem L2

def townSys (p : Addr) : Sys where
  S := List Int
  G := Unit
  ok := fun t _ _ H => H p = some (.lst (t.map V.int))
  dm := fun _ a => a = p
  keep := fun s g F F' H H' h _ k => by rw [k p rfl]; exact h
def dr (ns : List Int) (k : Int) (rest : List Int) (m : Int) : Int × List Int :=
  if ns = [] then (((k + 1) * (k + 1) * 7).fdiv 3 |>.fmod m, (k + 1) :: rest) else
    let at' := ((k + 1).fmod ns.length).toNat
    let left := rest.getD at' 0
    if ns.getD at' 0 ≥ 10 ^ 18 ∧ left > 0 then (left.fmod m, (k + 1) :: rest.set at' (left.fdiv m)) else
      let n1 := (ns.getD at' 0 + 104729 * (k + 1)).fmod 4294967291
      let n2 := (n1 ^ 5).fmod 4294967279
      ((((n2.fdiv 64 * 69621 + n2).fmod 4294967231).fdiv 8).fmod m, (k + 1) :: rest)
def g_draw (p : Addr) : Sem (List Int) := fun ds t => match ds, t with
  | [.scr ns, .adr q, .int m], k :: rest => if q = p ∧ 0 < m ∧ m < 1000000 ∧ 0 ≤ k ∧ k < 1000000000 ∧ rest.length = ns.length ∧ ns.length ≤ 63 then .ok (.int (dr ns k rest m).1) (dr ns k rest m).2 else .er
  | _, _ => .er
theorem dr_range {ns : List Int} {k : Int} {rest : List Int} {m : Int} (hm : 0 < m) : 0 ≤ (dr ns k rest m).1 ∧ (dr ns k rest m).1 < m := by
  have key : ∀ x : Int, 0 ≤ x.fmod m ∧ x.fmod m < m := fun x => ⟨Int.fmod_nonneg_of_pos _ hm, Int.fmod_lt_of_pos _ hm⟩
  unfold dr
  split
  · exact key _
  · dsimp only
    split <;> exact key _
theorem dr_len {ns : List Int} {k : Int} {rest : List Int} {m : Int} : ∃ rest', (dr ns k rest m).2 = (k + 1) :: rest' ∧ rest'.length = rest.length := by
  unfold dr
  split
  · exact ⟨_, rfl, rfl⟩
  · dsimp only
    split
    · exact ⟨_, rfl, List.length_set⟩
    · exact ⟨_, rfl, rfl⟩
theorem town_new {p : Addr} {K : PySem.W.Frag} {c : Cf (townSys p)} (ok : Ok c) (t : List Int) (H' : Hp) (hH : ∀ a, a ≠ p → H' a = c.H a) (hp : H' p = some (.lst (t.map V.int))) : Ok (⟨c.F, H', t, c.g⟩ : Cf (townSys p)) ∧ Step c (⟨c.F, H', t, c.g⟩ : Cf (townSys p)) := by
  refine ⟨⟨fun a o e => ?_, hp, ok.dis, fun a z => ?_⟩, ⟨Sub.refl _, fun a o e nd => ?_, fun _ _ z => z, fun _ z => z, fun _ _ z => z⟩⟩
  · have ne : a ≠ p := fun z => by
      have := ok.dis a z
      rw [show c.F a = some o from e] at this
      cases this
    rw [show (⟨c.F, H', t, c.g⟩ : Cf (townSys p)).H a = H' a from rfl, hH a ne]
    exact ok.sub a o e
  · have z : a = p := z
    subst z
    show H' a ≠ none
    rw [hp]
    exact fun z => nomatch z
  · show H' a = some o
    rw [hH a nd]
    exact e
theorem _root_.L2.PSs.ex {X : Cx} {st : List Stmt} {α : Type} {t : α → TS} (h : ∀ p, PSs X st (t p)) : PSs X st (fun D σ H => ∃ p, t p D σ H) := ⟨fun pins s σ H D I ⟨p, q⟩ => (h p).run pins s σ H D I q⟩
def spTown (K : PySem.W.Frag) : Sp := fun vs H Q _ => ∃ (a : Addr) (ns : List Int), vs = [.ref a] ∧ SqL K H a (ns.map V.int) ∧ ns.length ≤ 63 ∧ ∀ p H', H p = none → Same H H' → H' p = some (.lst ((0 :: ns).map V.int)) → Q (.ref p) H'
def spLaw (K : PySem.W.Frag) (N : Nat) (body : Addr → CSs (List Int)) : Sp := fun vs H Q _ => ∃ (a : Addr) (ns : List Int), vs = [.ref a] ∧ SqL K H a (ns.map V.int) ∧ ns.length ≤ 63 ∧
  (∀ p, ∃ s', runs (body p) (.va (.scr ns) :: .va (.adr p) :: List.replicate (N - 2) .no) (0 :: ns) = .rt (.bl true) s') ∧ ∀ H', Q (.bl true) H'
section
variable {P : Program} {w : World} {K : PySem.W.Frag} {mg : Str → Option Value} {base : Heap}
theorem law_sound {st : Stmt} {f fT : Addr} {fd fdT : FuncData} {N : List Str} {n : Nat} {body : Addr → CSs (List Int)} {px p1 p2 p3 p4 : Pos} {rest : List Stmt} (F : Fun K "law" "law" st f fd) (S : FnScope N ["script"] (defScope st)) (hN0 : N[0]? = some ("script" : Str)) (hN1 : N[1]? = some ("town" : Str))
    (hs0 : visB (defScope st) "script" = true) (hs1 : locB (defScope st) "town" = true) (hsg : glB (defScope st) "_law_town" = true)
    (hbd : defBody st = .Assign [.Name "town" px] (.Call (.Name "_law_town" p1) [.Name "script" p2] [] p3) p4 :: rest)
    (GT : FnOk P w K mg base (L2.CX P w) n fT fdT ["script"] (spTown K)) (bT : Binds K fdT ["script"] []) (kT : PySem.W.keepIn K (.ref fT) = true) (gT : mg "_law_town" = some (.ref fT)) (blt : ∀ y ∈ bltNames, mg y = none)
    (hc : ∀ p, chkSs N (defScope st) (body p) rest = true) (g : ∀ p, needSs (fun x m g => Has P w K mg base (townSys p) n x m g) (Glb K mg) (body p)) : FnOk P w K mg base (L2.CX P w) (n + 1) f fd ["script"] (spLaw K N.length body) := by
  refine F.okX S (fun vs H Q E h => ?_) (fun cdv A outer s H vs Q E hr h => ?_)
  · obtain ⟨a, ns, rfl, _⟩ := h
    rfl
  · obtain ⟨a, ns, rfl, hS, h63, hrun, q⟩ := h
    have C : SCxt (cxOf (L2.CX P w) P w K mg base N "law" (defScope st) f cdv A outer s H E) E n N (defScope st) :=
      { hN := rfl, hs := rfl, nd := S.nd, calm := rfl, room := hr, tk := takes_of rfl rfl rfl rfl, we := ⟨E, rfl⟩, blt := blt, po := passes_of rfl, fn := rfl, kd := S.kind, stk := rfl, fr := rfl, noex := rfl }
    rw [hbd]
    have hv : PE (cxOf (L2.CX P w) P w K mg base N "law" (defScope st) f cdv A outer s H E) (.Name "script" p2) (tVar 0) := vis_ok (n := n) C hs0 (beq_iff_eq.mpr hN0)
    refine ⟨_, pss_cons (ps_set (i := 1) S.nd hN1 (loc_ok C hs1) (pe_call GT hr (C.gl hsg) gT kT bT .nil passL (pa_cons hv pa_nil) (glB_ok hsg).2.1 rfl rfl) rfl (.inl rfl)) (PSs.ex fun p => soundSs (Y := townSys p) C (body p) rest (hc p) (g p)), ?_⟩
    have hl2 : 2 ≤ N.length := by
      have := (List.getElem?_eq_some_iff.mp hN1).1
      omega
    refine ⟨.ref a, rfl, a, ns, rfl, hS, h63, fun p H' hp sm hH' => ?_⟩
    obtain ⟨s', hr'⟩ := hrun p
    refine ⟨p, ?_⟩
    -- the configuration behind the first statement
    have ok : Ok (⟨H, H', 0 :: ns, ()⟩ : Cf (townSys p)) := ⟨fun b o e => sm b o e, hH', fun b z => by
      have z : b = p := z
      subst z
      exact hp, fun b z => by
      have z : b = p := z
      subst z
      show H' b ≠ none
      rw [hH']
      exact fun z => nomatch z⟩
    have eσ : (L2.start N [V.ref a]).set 1 (some (.ref p)) = some (.ref a) :: some (.ref p) :: List.replicate (N.length - 2) none := by
      unfold L2.start
      obtain ⟨m, hm⟩ : ∃ m, N.length = m + 2 := ⟨N.length - 2, by omega⟩
      rw [hm]
      rfl
    show tS (Y := townSys p) K mg E (runs (body p)) _ ((L2.start N [V.ref a]).set 1 (some (.ref p))) H'
    rw [eσ]
    have hget : ∀ {α : Type} {x y z : α} {m i : Nat} {v : α}, (x :: y :: List.replicate m z)[i]? = some v → (i = 0 ∧ v = x) ∨ (i = 1 ∧ v = y) ∨ v = z := fun {α x y z m i v} h => by
      cases i with
      | zero => cases h; exact .inl ⟨rfl, rfl⟩
      | succ i =>
        cases i with
        | zero => cases h; exact .inr (.inl ⟨rfl, rfl⟩)
        | succ i =>
          have h : (List.replicate m z)[i]? = some v := h
          rw [List.getElem?_replicate] at h
          split at h
          · cases h; exact .inr (.inr rfl)
          · cases h
    have rel : Rel K (⟨H, H', 0 :: ns, ()⟩ : Cf (townSys p)).H (⟨H, H', 0 :: ns, ()⟩ : Cf (townSys p)) (some (.ref a) :: some (.ref p) :: List.replicate (N.length - 2) none) (.va (.scr ns) :: .va (.adr p) :: List.replicate (N.length - 2) .no) :=
      { len := by simp only [List.length_cons, List.length_replicate]
        va := fun i d h => by
          rcases hget h with ⟨rfl, e⟩ | ⟨rfl, e⟩ | e
          · cases e; exact ⟨_, rfl, .scr hS⟩
          · cases e; exact ⟨_, rfl, .adr p⟩
          · cases e
        ow := fun i d h => by
          rcases hget h with ⟨rfl, e⟩ | ⟨rfl, e⟩ | e <;> cases e
        ap := fun i j d e p _ h => by
          rcases hget h with ⟨rfl, e⟩ | ⟨rfl, e⟩ | e <;> cases e }
    refine ⟨⟨H, H', 0 :: ns, ()⟩, H, ⟨H, H', 0 :: ns, ()⟩, _, rfl, Step.refl _, Sub.refl _, ok, rel, ?_⟩
    have fin : PostS (Y := townSys p) K mg E ⟨H, H', 0 :: ns, ()⟩ H { nx := fun _ H' => Q .non H', rt := Q } (Out.rt (.bl true) s') := by
      intro v c' e1 t1 ok1 r1
      cases r1
      exact q _
    exact (show (runs (S := (townSys p).S) (body p) (.va (.scr ns) :: .va (.adr p) :: List.replicate (N.length - 2) .no) (0 :: ns)) = Out.rt (.bl true) s' from hr') ▸ fin
end
def DefAt (K : PySem.W.Frag) (mg : Str → Option Value) (x : Str) (st : Stmt) : Prop := ∃ f fd, Fun K x x st f fd ∧ mg x = some (.ref f)
theorem defAt {K : PySem.W.Frag} {h : Heap} {mg : Str → Option Value} {x : Str} {st : Stmt} {f : Addr} {od an : Option Addr} {sl : Array (Option Value)} {oc kV dc pm cd ct : Value} (X : K.In h) (G : h.Ns mainGlobals mg)
    (a : PySem.W.nsIn K mainGlobals x = some (some (.ref f))) (l : K.lookup f = some ⟨oc, od, .func (PySem.W.fnOf x x (defArgs st) (defBody st) (defScope st) .none kV dc pm an cd ct), sl⟩) (c : PySem.W.codeIn K cd x = true) (k : PySem.W.keepIn K (.ref f) = true) : DefAt K mg x st :=
  ⟨f, _, fun_mk (st := st) l c k, PySem.W.mg_of X G a⟩
mutual
def sizeD : D → Nat
  | .int i => i.natAbs
  | .tup ds => sizeDs ds
  | .lst ds => sizeDs ds
  | _ => 0
def sizeDs : List D → Nat
  | [] => 0
  | d :: ds => sizeD d + sizeDs ds
end
end Mf
set_option Elab.async false
set_option linter.all false
set_option maxRecDepth 100000
set_option maxHeartbeats 2000000
namespace Mf
open PySem L2
def isTy (v : Value) (s : String) : Bool := match v with
  | .type t => t == s
  | _ => false
mutual
def repB (K : PySem.W.Frag) : Nat → Value → D → Bool
  | n, u, d => match d with
    | .non => match u with | .none => true | _ => false
    | .bl b => match u with | .bool a => a == b | _ => false
    | .int j => match u with | .int i _ => decide (i = j) | _ => false
    | .str y => match u with | .str x _ => x == y | _ => false
    | .tup ds => match n with
      | 0 => false
      | n + 1 => match u with
        | .ref a => match K.lookup a with
          | some o => isTy o.cls "tuple" && o.dict.isNone && (match o.data with
            | .seq its _ => decide (its.size ≤ 1000) && repBs K n its.toList ds
            | _ => false)
          | none => false
        | _ => false
    | _ => false
def repBs (K : PySem.W.Frag) : Nat → List Value → List D → Bool
  | _, [], [] => true
  | n, u :: us, d :: ds => repB K n u d && repBs K n us ds
  | _, _, _ => false
end
mutual
theorem repB_ok {K : PySem.W.Frag} : ∀ (n : Nat) (u : Value) (d : D), repB K n u d = true → ∃ v, RelV v u ∧ ∀ F, Rep K F v d
  | n, u, .non, h => by
    unfold repB at h
    dsimp only at h
    split at h
    · exact ⟨.non, rfl, fun _ => .non⟩
    · cases h
  | n, u, .bl b, h => by
    unfold repB at h
    dsimp only at h
    split at h
    · have := beq_iff_eq.mp h; subst this; exact ⟨.bl _, rfl, fun _ => .bl _⟩
    · cases h
  | n, u, .int j, h => by
    unfold repB at h
    dsimp only at h
    split at h
    · have := of_decide_eq_true h; subst this; exact ⟨.int _, ⟨_, rfl⟩, fun _ => .int _⟩
    · cases h
  | n, u, .str j, h => by
    unfold repB at h
    dsimp only at h
    split at h
    · have := beq_iff_eq.mp h; subst this; exact ⟨.str _, ⟨_, rfl⟩, fun _ => .str _⟩
    · cases h
  | 0, u, .tup ds, h => by
    unfold repB at h
    dsimp only at h
    cases h
  | n + 1, u, .tup ds, h => by
    unfold repB at h
    dsimp only at h
    cases u with
    | ref a =>
      dsimp only at h
      cases e : K.lookup a with
      | none => rw [e] at h; cases h
      | some o =>
        rw [e] at h
        dsimp only at h
        rw [Bool.and_eq_true, Bool.and_eq_true] at h
        obtain ⟨⟨h1, h2⟩, h3⟩ := h
        have hc : o.cls = .type "tuple" := by
          unfold isTy at h1
          split at h1
          · rename_i t ht
            rw [ht, beq_iff_eq.mp h1]
          · cases h1
        have hd : o.dict = none := Option.isNone_iff_eq_none.mp h2
        cases hs : o.data with
        | seq its m =>
          rw [hs] at h3
          dsimp only at h3
          rw [Bool.and_eq_true] at h3
          obtain ⟨vs, r1, r2⟩ := repBs_ok n its.toList ds h3.2
          exact ⟨.ref a, rfl, fun F => .tup (.inr ⟨o, its, m, e, hc, hs, Nat.le_trans (of_decide_eq_true h3.1) (by decide), r1⟩) (.inr ⟨o, e, hd⟩) (r2 F)⟩
        | _ => rw [hs] at h3; cases h3
    | _ => cases h
  | n, u, .lst ds, h => by
    unfold repB at h
    dsimp only at h
    cases h
  | n, u, .dct ds, h => by
    unfold repB at h
    dsimp only at h
    cases h
  | n, u, .adr ds, h => by
    unfold repB at h
    dsimp only at h
    cases h
  | n, u, .exn ds, h => by
    unfold repB at h
    dsimp only at h
    cases h
  | n, u, .scr ds, h => by
    unfold repB at h
    dsimp only at h
    cases h
theorem repBs_ok {K : PySem.W.Frag} : ∀ (n : Nat) (us : List Value) (ds : List D), repBs K n us ds = true → ∃ vs, Vals vs us ∧ ∀ F, Reps K F vs ds
  | _, [], [], _ => ⟨[], .nil, fun _ => .nil⟩
  | n, u :: us, d :: ds, h => by
    have h := Bool.and_eq_true_iff.mp h
    obtain ⟨v, a, b⟩ := repB_ok n u d h.1
    obtain ⟨vs, a', b'⟩ := repBs_ok n us ds h.2
    exact ⟨v :: vs, .cons a a', fun F => .cons (b F) (b' F)⟩
  | _, [], _ :: _, h => by cases h
  | _, _ :: _, [], h => by cases h
end
theorem glb_of {K : PySem.W.Frag} {h : Heap} {mg : Str → Option Value} {x : Str} {u : Value} {d : D} (X : K.In h) (G : h.Ns mainGlobals mg) (e : PySem.W.nsIn K mainGlobals x = some (some u)) (r : repB K 20 u d = true) : Glb K mg x d := by
  obtain ⟨v, a, b⟩ := repB_ok 20 u d r
  refine ⟨fun z => ?_, fun _ => ?_⟩
  rotate_left
  · cases d <;> first | exact ⟨u, v, PySem.W.mg_of X G e, a, b⟩ | (unfold repB at r; dsimp only at r; cases r)
  cases d <;> first | cases z | skip
  unfold repB at r
  dsimp only at r
  cases r
theorem glb_tab {K : PySem.W.Frag} {h : Heap} {mg : Str → Option Value} {x : Str} {a : Addr} {t : List (Str × D)} (X : K.In h) (G : h.Ns mainGlobals mg) (e : PySem.W.nsIn K mainGlobals x = some (some (.ref a))) (r : tabKB K a t = true) : Glb K mg x (.dct t) :=
  ⟨(fun z => nomatch z), (fun _ => ⟨a, PySem.W.mg_of X G e, r⟩)⟩
def excB (K : PySem.W.Frag) : Bool := match PySem.W.nsIn K mainGlobals "MeasureError" with
  | some (some (.ref M)) => (PySem.W.specialIn K (.builtin "object.__class__") "__get__" == some (some (.builtin "getset_descriptor.__get__"))) && (PySem.W.takesIn K (.builtin "object.__class__") == some true) && excNames.all fun x => match PySem.W.nsIn K mainGlobals x with
    | some none => true
    | some (some (.ref C)) => (PySem.W.findIn K (.ref C) "__getattribute__" == some (some (.builtin "BaseException.__getattribute__"))) && (PySem.W.findIn K (.ref C) "__getattr__" == some none) && (PySem.W.subIn K (.ref C) (.type "BaseException") == some true) && PySem.W.hasDictIn K C &&
      (PySem.W.findIn K (.ref C) "__class__" == some (some (.builtin "object.__class__"))) && (PySem.W.mroIn K C (.type "object") == some true) && PySem.W.excIn K C HandSPX.veTail "ValueError.__new__" && PySem.W.keepIn K (.ref C) && (PySem.W.typeIn K (.ref C) == some (.type "type")) &&
      (PySem.W.kitOne K (.ref C) (.type "ValueError") == some true) && (PySem.W.exmOne K (.ref C) (.ref M) == some true) && excNames.all fun y => match PySem.W.nsIn K mainGlobals y with
        | some none => true
        | some (some (.ref C')) => PySem.W.kitOne K (.ref C) (.ref C') == some (x == y)
        | _ => false
    | _ => false
  | _ => false
theorem glb_exc {K : PySem.W.Frag} {h : Heap} {mg : Str → Option Value} (X : K.In h) (G : h.Ns mainGlobals mg) (e : excB K = true) : Glb K mg "EXC" d_EXC := by
  refine ⟨fun _ => ⟨?_, fun z => absurd z (by decide +kernel)⟩, fun z => by cases z⟩
  unfold excB at e
  split at e
  · rename_i M hM
    rw [Bool.and_eq_true, Bool.and_eq_true] at e
    obtain ⟨⟨g1, g2⟩, e⟩ := e
    refine ⟨M, PySem.W.mg_of X G hM, fun x hx hp => ?_⟩
    have e := List.all_eq_true.mp e x hx
    split at e
    · rename_i hno
      rcases hp with hp | hp
      · exact absurd (PySem.W.mg_none_of X G hno) hp
      · exact absurd hno hp
    · rename_i C hC
      simp only [Bool.and_eq_true] at e
      obtain ⟨⟨⟨⟨⟨⟨⟨⟨⟨⟨⟨e1, e2⟩, e3⟩, e4⟩, e5⟩, e6⟩, e7⟩, e8⟩, e9⟩, e10⟩, e11⟩, e12⟩ := e
      refine ⟨C, { ns := hC, gm := PySem.W.mg_of X G hC, ec := ⟨beq_iff_eq.mp e1, beq_iff_eq.mp e2, beq_iff_eq.mp e3, e4, beq_iff_eq.mp e5, beq_iff_eq.mp g1, beq_iff_eq.mp g2, beq_iff_eq.mp e6⟩, nw := e7, kp := e8, ty := beq_iff_eq.mp e9, ve := beq_iff_eq.mp e10, me := beq_iff_eq.mp e11, is := fun y hy C' hC' => ?_ }⟩
      have q := List.all_eq_true.mp e12 y hy
      rw [hC'] at q
      exact beq_iff_eq.mp q
    · cases e
  · cases e
theorem glb_cls {K : PySem.W.Frag} {h : Heap} {mg : Str → Option Value} {x : Str} {u : Value} (X : K.In h) (G : h.Ns mainGlobals mg) (g : Glb K mg "EXC" d_EXC) (e : PySem.W.nsIn K mainGlobals x = some (some u)) : Glb K mg x d_EXC :=
  ⟨fun _ => ⟨g.exc, fun _ => by rw [PySem.W.mg_of X G e]; exact fun z => nomatch z⟩, fun z => by cases z⟩
theorem glb_ve {K : PySem.W.Frag} {mg : Str → Option Value} (g : Glb K mg "EXC" d_EXC) : Glb K mg "ValueError" d_EXC :=
  ⟨fun _ => ⟨g.exc, fun z => absurd z (by decide +kernel)⟩, fun z => by cases z⟩
theorem cx_no {P : Program} {w : World} {H : Hp} {s : Shared} {e : Value} {s' : Shared} (h : L2.CX P w [] H s (fun _ _ _ => False) e s') : False := by
  obtain ⟨_, _, _, _, _, _, _, _, _, _, _, _, h⟩ := h
  exact h
end Mf
set_option Elab.async false
set_option linter.all false
set_option maxRecDepth 100000
set_option maxHeartbeats 1000000
namespace Mf
open PySem L2
section
variable {S α β : Type} {s : S}
theorem bindq_ok (a : α) (f : α → S → Res S β) : (Res.ok a s).bind f = f a s := rfl
theorem ob_ok (a : α) (f : α → S → Out S) : (Res.ok a s).ob f = f a s := rfl
theorem sq_nx {ρ : List SV} (f : List SV → S → Out S) : (Out.nx ρ s).sq f = f ρ s := rfl
theorem sq_rt {d : D} (f : List SV → S → Out S) : (Out.rt d s).sq f = .rt d s := rfl
theorem onO_some (a : α) (f : α → Out S) : onO (some a) f = f a := rfl
theorem liftO_some (a : α) : liftO s (some a) = .ok a s := rfl
theorem kd_some (d : D) : kd s (some d) = .ok (.v, d) s := rfl
theorem dat_v (d : D) : dat (.v, d) s = .ok d s := rfl
theorem dat_t (d : D) : dat (.t, d) s = .ok d s := rfl
theorem tru_bl (k : K3) (b : Bool) : tru (k, .bl b) s = .ok b s := rfl
theorem intOf_int (k : K3) (i : Int) : intOf (k, .int i) s = .ok i s := rfl
theorem noExq (a : α) : noEx (Res.ok a s) = .ok a s := rfl
theorem stk_v (b : Bool) (d : D) : stk b (.v, d) s = .ok (.v, d) s := by cases b <;> rfl
theorem stk_t (b : Bool) (d : D) : stk b (.t, d) s = .ok (.t, d) s := by cases b <;> rfl
theorem stk_o (d : D) : stk false (.o, d) s = .ok (.o, d) s := rfl
theorem stow_tt (d : D) : stow true (.t, d) = some (.ow d) := rfl
theorem stow_fv (d : D) : stow false (.v, d) = some (.va d) := rfl
theorem stow_ft (d : D) : stow false (.t, d) = some (.va d) := rfl
theorem runs_cons (c : CS S) (cs : CSs S) (ρ : List SV) : runs (.cons c cs) ρ s = (run c ρ s).sq (runs cs) := by rw [runs]
theorem runs_nil (ρ : List SV) : runs (.nil : CSs S) ρ s = .nx ρ s := by rw [runs]
theorem run_for (tg : Tg) (it : CI S) (body : CSs S) (ρ : List SV) : run (.forr tg it body) ρ s = (evI true it ρ s).ob fun ds s => forR (fun d ρ s => onO (asgT tg d ρ) fun ρ' => runs body ρ' s) ds ρ s := by rw [run]
theorem run_ife (t : CE S) (a b : CSs S) (ρ : List SV) : run (.ife t a b) ρ s = ((ev t ρ s).bind tru).ob fun k s => if k then runs a ρ s else runs b ρ s := by rw [run]
theorem fnR_rt {n : Nat} {body : CSs S} {ds : List D} {d : D} {s' : S} (h : runs body (ds.map SV.va ++ List.replicate (n - ds.length) .no) s = .rt d s') : fnR n body ds s = .ok d s' := by
  unfold fnR
  rw [h]
theorem eqD_int (i j : Int) : eqD (.int i) (.int j) = some (decide (i = j)) := by
  show some (i == j) = _
  rfl
theorem cmp_ne (x y : D) : cmpD .ne x y = (eqD x y).map (!·) := by cases x <;> cases y <;> rfl
theorem cmp_eq (x y : D) : cmpD .eq x y = eqD x y := by cases x <;> cases y <;> rfl
theorem cmp_gt (i j : Int) : cmpD .gt (.int i) (.int j) = some (decide (j < i)) := rfl
theorem cmp_ge (i j : Int) : cmpD .ge (.int i) (.int j) = some (decide (j ≤ i)) := rfl
theorem cmp_lt (i j : Int) : cmpD .lt (.int i) (.int j) = some (decide (i < j)) := rfl
theorem cmp_le (i j : Int) : cmpD .le (.int i) (.int j) = some (decide (i ≤ j)) := rfl
theorem cmp_in (x y : D) : cmpD .isin x y = inD x y := by cases x <;> cases y <;> rfl
theorem cmp_notin (x y : D) : cmpD .notin x y = (inD x y).map (!·) := by cases x <;> cases y <;> rfl
theorem cmp_is (x y : D) : cmpD .is x y = isD x y := by cases x <;> cases y <;> rfl
theorem cmp_isnot (x y : D) : cmpD .isnot x y = (isD x y).map (!·) := by cases x <;> cases y <;> rfl
theorem bin_add (i j : Int) : binD .add (.int i) (.int j) = some (.v, .int (i + j)) := rfl
theorem bin_sub (i j : Int) : binD .sub (.int i) (.int j) = some (.v, .int (i - j)) := rfl
theorem b1_abs (i : Int) : b1D .abs (.int i) = some (.v, .int (i.natAbs : Int)) := by
  show some (K3.v, D.int (if i < 0 then -i else i)) = _
  congr 3
  omega
theorem ix0 (a b : D) : ixD (.tup [a, b]) (.int 0) = some a := rfl
theorem ix1 (a b : D) : ixD (.tup [a, b]) (.int 1) = some b := rfl
end
theorem log2_lt {n k : Nat} (h : n < 2 ^ k) (hk : 0 < k) : n.log2 < k := by
  by_cases z : n = 0
  · subst z
    simpa using hk
  · exact (Nat.log2_lt z).mpr h
end Mf
set_option Elab.async false
set_option linter.all false
set_option maxRecDepth 100000
set_option maxHeartbeats 1000000
namespace Mf
open PySem L2
def F (q : Rat) : D := .tup [.int q.num, .int q.den]
def bd (B : Nat) (x : Rat) : Prop := x.num.natAbs < 2 ^ B ∧ x.den < 2 ^ B
theorem bd.mono {A B : Nat} {x : Rat} (h : bd A x) (k : A ≤ B) : bd B x := ⟨Nat.lt_of_lt_of_le h.1 (Nat.pow_le_pow_right (by decide) k), Nat.lt_of_lt_of_le h.2 (Nat.pow_le_pow_right (by decide) k)⟩
theorem bd_divInt {a b : Int} {B : Nat} (hb : b ≠ 0) (ha : a.natAbs < 2 ^ B) (hB : b.natAbs < 2 ^ B) : bd B (Rat.divInt a b) := by
  constructor
  · rw [Rat.num_divInt]
    refine Nat.lt_of_le_of_lt (Int.natAbs_ediv_le_natAbs _ _) ?_
    rw [Int.natAbs_mul]
    rcases Int.lt_or_gt_of_ne hb with h | h
    · rw [Int.sign_eq_neg_one_of_neg h]; simpa using ha
    · rw [Int.sign_eq_one_of_pos h]; simpa using ha
  · rw [Rat.den_divInt, if_neg hb]
    exact Nat.lt_of_le_of_lt (Nat.div_le_self _ _) hB
theorem mul_lt {i j : Int} {a b : Nat} (hi : i.natAbs < 2 ^ a) (hj : j.natAbs < 2 ^ b) : (i * j).natAbs < 2 ^ (a + b) := by
  rw [Int.natAbs_mul, Nat.pow_add]
  exact Nat.mul_lt_mul'' hi hj
theorem add_lt {i j : Int} {a : Nat} (hi : i.natAbs < 2 ^ a) (hj : j.natAbs < 2 ^ a) : (i + j).natAbs < 2 ^ (a + 1) := by
  have := Int.natAbs_add_le i j
  rw [Nat.pow_succ]
  omega
theorem bd.den {B : Nat} {x : Rat} (h : bd B x) : ((x.den : Int)).natAbs < 2 ^ B := by simpa using h.2
def row (r : List Rat) : D := .tup (r.map F)
section
variable {S : Type} {s : S}
theorem walkR_filter {α : Type} {f : D → S → Res S (Option D)} {e g : α → D} {t : α → Bool} : ∀ {l : List α}, (∀ a ∈ l, f (e a) s = .ok (if t a then some (g a) else none) s) → walkR f (l.map e) s = .ok ((l.filter t).map g) s
  | [], _ => rfl
  | a :: l, h => by
    show (f (e a) s).bind _ = _
    rw [h a List.mem_cons_self]
    show (walkR f (l.map e) s).bind _ = _
    rw [walkR_filter fun b hb => h b (List.mem_cons_of_mem _ hb)]
    cases ht : t a <;> simp [ht, List.filter_cons, bindq_ok]
end
section
variable {S : Type} {s : S}
theorem ev_lcf {α : Type} {it : CI S} {tg : Tg} {elt tt : CE S} {vs : List Nat} {ρ : List SV} {l : List α} {e g : α → D} {t : α → Bool} (hi : evI false it ρ s = .ok (l.map e) s) (hl : l.length ≤ 1000000)
    (hb : ∀ a ∈ l, ∃ ρ', asgT tg (e a) (wipeR ρ vs) = some ρ' ∧ (∃ k, ev tt ρ' s = .ok (k, .bl (t a)) s) ∧ (t a = true → ∃ k, k ≠ K3.o ∧ ev elt ρ' s = .ok (k, g a) s)) : ev (.lc it tg (.cons tt .nil) elt vs) ρ s = .ok (.t, .lst ((l.filter t).map g)) s := by
  rw [ev, hi]
  simp only [bindq_ok, List.length_map, lenOk, decide_eq_true hl, Bool.not_true, Bool.false_eq_true, if_false]
  rw [walkR_filter (g := g) (t := t)]
  · rfl
  · intro a ha
    obtain ⟨ρ', h1, ⟨k0, h2⟩, h3⟩ := hb a ha
    simp only [h1, evT, h2, bindq_ok, tru_bl, noExq]
    cases ht : t a with
    | false => rfl
    | true =>
      obtain ⟨k, hk, h4⟩ := h3 ht
      simp only [if_true, h4, noExq, bindq_ok]
      cases k with
      | v => rfl
      | t => rfl
      | o => exact absurd rfl hk
theorem forR_ind {α : Type} {f : D → List SV → S → Out S} {e : α → D} {P : List α → List SV → S → Prop} (h : ∀ a l ρ s, P (a :: l) ρ s → ∃ ρ' s', f (e a) ρ s = .nx ρ' s' ∧ P l ρ' s') : ∀ l ρ s, P l ρ s → ∃ ρ' s', forR f (l.map e) ρ s = .nx ρ' s' ∧ P [] ρ' s'
  | [], ρ, s, p => ⟨ρ, s, rfl, p⟩
  | a :: l, ρ, s, p => by
    obtain ⟨ρ', s', h1, h2⟩ := h a l ρ s p
    obtain ⟨ρ2, s2, h3, h4⟩ := forR_ind h l ρ' s' h2
    refine ⟨ρ2, s2, ?_, h4⟩
    show (f (e a) ρ s).sq (forR f (l.map e)) = _
    rw [h1]
    exact h3
end
theorem seq_nx {S : Type} {c : CS S} {cs : CSs S} {ρ ρ' : List SV} {s s' : S} {r : Out S} (h : run c ρ s = .nx ρ' s') (h2 : runs cs ρ' s' = r) : runs (.cons c cs) ρ s = r := by
  rw [runs_cons, h]
  exact h2
theorem seq_rt {S : Type} {c : CS S} {cs : CSs S} {ρ : List SV} {s s' : S} {d : D} (h : run c ρ s = .rt d s') : runs (.cons c cs) ρ s = .rt d s' := by
  rw [runs_cons, h]
  rfl
theorem run_forq {S : Type} {tg : Tg} {it : CI S} {body : CSs S} {ρ : List SV} {s s1 : S} {ds : List D} {o : Out S} (h : evI true it ρ s = .ok ds s1) (h2 : forR (fun d ρ s => onO (asgT tg d ρ) fun ρ' => runs body ρ' s) ds ρ s1 = o) : run (.forr tg it body) ρ s = o := by
  rw [run_for, h]
  exact h2
theorem run_asgq {S : Type} {own : Bool} {i : Nat} {e : CE S} {ρ ρ' : List SV} {s s1 : S} {x : K3 × D} (h : ev e ρ s = .ok x s1) {v : SV} (hv : stow own x = some v) (hp : put ρ i v = some ρ') : run (.asg own i e) ρ s = .nx ρ' s1 := by
  rw [run, h, ob_ok, hv, onO_some, hp]
  rfl
theorem run_retq {S : Type} {e : CE S} {ρ : List SV} {s s1 : S} {k : K3} {d : D} (h : ev e ρ s = .ok (k, d) s1) (hk : k ≠ .o) : run (.ret e) ρ s = .rt d s1 := by
  rw [run, h]
  cases k with
  | v => rfl
  | t => rfl
  | o => exact absurd rfl hk
theorem run_ifq {S : Type} {t : CE S} {a b : CSs S} {ρ : List SV} {s s1 : S} {k : Bool} {k3 : K3} {o : Out S} (h : ev t ρ s = .ok (k3, .bl k) s1) (h2 : (if k then runs a ρ s1 else runs b ρ s1) = o) : run (.ife t a b) ρ s = o := by
  rw [run_ife, h]
  exact h2
def bds (B : Nat) (r : List Rat) : Prop := ∀ x ∈ r, bd B x
theorem bds.mono {A B : Nat} {r : List Rat} (h : bds A r) (k : A ≤ B) : bds B r := fun x hx => (h x hx).mono k
def radd (a b : List Rat) (m : Rat) : List Rat := (a.zip b).map fun p => p.1 + p.2 * m
theorem radd_length {a b : List Rat} (h : a.length = b.length) (m : Rat) : (radd a b m).length = a.length := by simp [radd, h]
theorem lenOk_of {n : Nat} (h : n ≤ 1000000) : lenOk n = true := decide_eq_true h
end Mf
set_option Elab.async false
set_option linter.all false
set_option maxRecDepth 100000
set_option maxHeartbeats 1000000
namespace Mf
open PySem L2
def rneg (r h : List Rat) (p : Nat) : List Rat := radd r h (r.getD p 0 * -1)
def redStep (st : List (List Rat) × List (List Rat)) (p : Nat) : List (List Rat) × List (List Rat) :=
  match st.2.filter (fun r => decide (r.getD p 0 ≠ 0)) with
  | [] => st
  | h :: _ => (st.1.map (fun r => rneg r (h.map (· / h.getD p 0)) p) ++ [h.map (· / h.getD p 0)], (st.2.erase h).map fun r => rneg r (h.map (· / h.getD p 0)) p)
def RV (B W : Nat) (l : List (List Rat)) : Prop := ∀ r ∈ l, r.length = W ∧ bds B r
theorem items_lst (ds : List D) : itemsD (.lst ds) = some ds := rfl
theorem items_row (r : List Rat) : itemsD (row r) = some (r.map F) := rfl
theorem RV.mono {A B W : Nat} {l : List (List Rat)} (h : RV A W l) (k : A ≤ B) : RV B W l := fun r hr => ⟨(h r hr).1, (h r hr).2.mono k⟩
theorem getD_mem {r : List Rat} {p : Nat} (h : p < r.length) : r.getD p 0 ∈ r := by
  rw [List.getD_eq_getElem?_getD, List.getElem?_eq_getElem h]
  exact List.getElem_mem h
end Mf
set_option Elab.async false
set_option linter.all false
set_option maxRecDepth 100000
set_option maxHeartbeats 1000000
namespace Mf
open PySem L2
def Tw (ns : List Int) (n : Nat) (s : List Int) : Prop := ∃ k rest, s = k :: rest ∧ 0 ≤ k ∧ k ≤ n ∧ rest.length = ns.length ∧ ns.length ≤ 63
theorem Tw.mono {ns s : List Int} {n m : Nat} (h : Tw ns n s) (k : n ≤ m) : Tw ns m s := by
  obtain ⟨a, b, c, d, e, f⟩ := h
  exact ⟨a, b, c, d, by omega, f⟩
theorem Tw.zero {ns : List Int} (h : ns.length ≤ 63) : Tw ns 0 (0 :: ns) := ⟨0, ns, rfl, Int.le_refl _, Int.le_refl _, rfl, h⟩
theorem draw_ok {p : Addr} {ns s : List Int} {n : Nat} {m : Int} (h : Tw ns n s) (hn : n < 100000000) (h0 : 0 < m) (h1 : m < 1000000) : ∃ d s', g_draw p [.scr ns, .adr p, .int m] s = .ok (.int d) s' ∧ 0 ≤ d ∧ d < m ∧ Tw ns (n + 1) s' := by
  obtain ⟨k, rest, rfl, hk0, hk1, hl, h63⟩ := h
  obtain ⟨rest', e, hl'⟩ := dr_len (ns := ns) (k := k) (rest := rest) (m := m)
  obtain ⟨d0, d1⟩ := dr_range (ns := ns) (k := k) (rest := rest) h0
  refine ⟨(dr ns k rest m).1, (dr ns k rest m).2, ?_, d0, d1, k + 1, rest', e, by omega, by omega, by omega, h63⟩
  show (if p = p ∧ 0 < m ∧ m < 1000000 ∧ 0 ≤ k ∧ k < 1000000000 ∧ rest.length = ns.length ∧ ns.length ≤ 63 then _ else _) = _
  rw [if_pos ⟨rfl, h0, h1, hk0, by omega, hl, h63⟩]
section
variable {S : Type}
end
def nm (i : Nat) : Str := ⟨#[97 + i]⟩
def sm (x : Rat) : Prop := x.num.natAbs ≤ 2 ∧ (x.den = 1 ∨ x.den = 2)
theorem sm.bd {x : Rat} (h : sm x) : bd 2 x := ⟨by have := h.1; omega, by rcases h.2 with e | e <;> rw [e] <;> decide⟩
structure Tab (ms : List (List Rat)) : Prop where
  six : ms.length = 6
  three : ∀ m ∈ ms, m.length = 3
  sm : ∀ m ∈ ms, ∀ x ∈ m, sm x
end Mf
namespace Mf
open PySem L2
structure TabL (l : List (Nat × List Rat)) : Prop where
  nm : ∀ q ∈ l, q.1 < 6
  three : ∀ q ∈ l, q.2.length = 3
  fit : ∀ q ∈ l, ∀ x ∈ q.2, x.num.natAbs ≤ 1000000000000 ∧ x.den ≤ 1000000000000
  up : ∀ (k : Nat) (h : k + 1 < l.length), (l[k]'(by omega)).1 < l[k + 1].1
theorem TabL.len {l : List (Nat × List Rat)} (T : TabL l) : l.length ≤ 6 := by
  have key : ∀ (k : Nat) (h : k < l.length), k ≤ (l[k]).1 := by
    intro k
    induction k with
    | zero => intro h; exact Nat.zero_le _
    | succ k ih => intro h; have := ih (by omega); have := T.up k h; omega
  by_cases z : l.length = 0
  · omega
  · have h1 := key (l.length - 1) (by omega)
    have h2 := T.nm l[l.length - 1] (List.getElem_mem (by omega))
    omega
end Mf
set_option Elab.async false
set_option linter.all false
set_option maxRecDepth 100000
set_option maxHeartbeats 1000000
namespace Mf
def sumTo : Nat → (Nat → Rat) → Rat
  | 0, _ => 0
  | n + 1, f => sumTo n f + f n
theorem sumTo_add (n : Nat) (f g : Nat → Rat) : sumTo n (fun q => f q + g q) = sumTo n f + sumTo n g := by
  induction n with
  | zero => simp only [sumTo]; grind
  | succ n ih => simp only [sumTo, ih]; grind
theorem sumTo_mul (n : Nat) (f : Nat → Rat) (c : Rat) : sumTo n (fun q => f q * c) = sumTo n f * c := by
  induction n with
  | zero => simp [sumTo]
  | succ n ih => simp only [sumTo, ih]; grind
theorem sumTo_congr {n : Nat} {f g : Nat → Rat} (h : ∀ q < n, f q = g q) : sumTo n f = sumTo n g := by
  induction n with
  | zero => rfl
  | succ n ih => simp only [sumTo]; rw [ih fun q hq => h q (by omega), h n (by omega)]
def dot (n : Nat) (r : List Rat) (v : Nat → Rat) : Rat := sumTo n fun q => r.getD q 0 * v q
theorem radd_get {a b : List Rat} {m : Rat} {q : Nat} (h : a.length = b.length) : (radd a b m).getD q 0 = a.getD q 0 + b.getD q 0 * m := by
  unfold radd
  simp only [List.getD_eq_getElem?_getD, List.getElem?_map, List.getElem?_zip_eq_some, List.zip]
  by_cases hq : q < a.length
  · rw [List.getElem?_zipWith, List.getElem?_eq_getElem hq, List.getElem?_eq_getElem (show q < b.length by omega)]
    rfl
  · rw [List.getElem?_zipWith, List.getElem?_eq_none (by omega), List.getElem?_eq_none (by omega)]
    simp
    grind
theorem rneg_get {r h : List Rat} {p q : Nat} (hl : r.length = h.length) : (rneg r h p).getD q 0 = r.getD q 0 - h.getD q 0 * r.getD p 0 := by
  unfold rneg
  rw [radd_get hl]
  grind
theorem over_get {h : List Rat} {c : Rat} {q : Nat} : (h.map (· / c)).getD q 0 = h.getD q 0 / c := by
  simp only [List.getD_eq_getElem?_getD, List.getElem?_map]
  cases h[q]? with
  | none => simp; grind
  | some x => rfl
theorem dot_rneg {n : Nat} {r h : List Rat} {p : Nat} {v : Nat → Rat} (hl : r.length = h.length) : dot n (rneg r h p) v = dot n r v - dot n h v * r.getD p 0 := by
  unfold dot
  have e : sumTo n (fun q => (rneg r h p).getD q 0 * v q) = sumTo n (fun q => (r.getD q 0 * v q) + (h.getD q 0 * v q) * (- r.getD p 0)) := sumTo_congr fun q _ => by rw [rneg_get hl]; grind
  rw [e, sumTo_add, sumTo_mul]
  grind
theorem dot_over {n : Nat} {h : List Rat} {c : Rat} {v : Nat → Rat} (hc : c ≠ 0) : dot n (h.map (· / c)) v = dot n h v / c := by
  unfold dot
  have e : sumTo n (fun q => (h.map (· / c)).getD q 0 * v q) = sumTo n (fun q => (h.getD q 0 * v q) * (1 / c)) := sumTo_congr fun q _ => by rw [over_get]; grind
  rw [e, sumTo_mul]
  grind
structure Hd (p : Nat) (ps : List (List Rat × Nat)) : Prop where
  lt : ∀ x ∈ ps, x.2 < p
  one : ∀ x ∈ ps, x.1.getD x.2 0 = 1
  ahead : ∀ x ∈ ps, ∀ q < x.2, x.1.getD q 0 = 0
  alone : ∀ x ∈ ps, ∀ y ∈ ps, y.2 ≠ x.2 → x.1.getD y.2 0 = 0
  up : ps.Pairwise fun x y => x.2 < y.2
structure RI (W : Nat) (l : List (List Rat)) (p : Nat) (st : List (List Rat) × List (List Rat)) : Prop where
  hd : ∃ ps : List (List Rat × Nat), st.1 = ps.map Prod.fst ∧ Hd p ps
  len : ∀ r ∈ st.1 ++ st.2, r.length = W
  left : ∀ r ∈ st.2, ∀ q < p, r.getD q 0 = 0
  same : ∀ v, (∀ r ∈ l, dot W r v = 0) ↔ ∀ r ∈ st.1 ++ st.2, dot W r v = 0
  cnt : st.1.length + st.2.length = l.length
theorem RI.step {W : Nat} {l : List (List Rat)} {p : Nat} {st : List (List Rat) × List (List Rat)} (I : RI W l p st) (hp : p < W) : RI W l (p + 1) (redStep st p) := by
  obtain ⟨⟨ps, hps, H⟩, hlen, hleft, hsame, hcnt⟩ := I
  unfold redStep
  split
  · rename_i hf
    refine ⟨⟨ps, hps, ⟨fun x hx => Nat.lt_succ_of_lt (H.lt x hx), H.one, H.ahead, H.alone, H.up⟩⟩, hlen, fun r hr q hq => ?_, hsame, hcnt⟩
    by_cases e : q = p
    · subst e
      have := List.filter_eq_nil_iff.mp hf r hr
      simpa using this
    · exact hleft r hr q (by omega)
  · rename_i h t hf
    have hm : h ∈ st.2.filter (fun r => decide (r.getD p 0 ≠ 0)) := by rw [hf]; exact List.mem_cons_self
    obtain ⟨hm1, hm2⟩ := List.mem_filter.mp hm
    have h0 : h.getD p 0 ≠ 0 := of_decide_eq_true hm2
    have hw : h.length = W := hlen h (List.mem_append_right _ hm1)
    have hwl : (h.map (· / h.getD p 0)).length = W := by rw [List.length_map]; exact hw
    have hh1 : (h.map (· / h.getD p 0)).getD p 0 = 1 := by rw [over_get]; grind
    have hh0 : ∀ q < p, (h.map (· / h.getD p 0)).getD q 0 = 0 := fun q hq => by rw [over_get, hleft h hm1 q hq]; grind
    have hl1 : ∀ r ∈ st.1, r.length = (h.map (· / h.getD p 0)).length := fun r hr => by rw [hwl]; exact hlen r (List.mem_append_left _ hr)
    have hl2 : ∀ r ∈ st.2.erase h, r.length = (h.map (· / h.getD p 0)).length := fun r hr => by rw [hwl]; exact hlen r (List.mem_append_right _ (List.mem_of_mem_erase hr))
    refine ⟨⟨ps.map (fun x => (rneg x.1 (h.map (· / h.getD p 0)) p, x.2)) ++ [(h.map (· / h.getD p 0), p)], ?_, ?_⟩, ?_, ?_, ?_, ?_⟩
    · dsimp only
      rw [hps, List.map_append, List.map_map, List.map_map]
      rfl
    · have mem1 : ∀ x ∈ ps, x.1.length = (h.map (· / h.getD p 0)).length := fun x hx => hl1 x.1 (by rw [hps]; exact List.mem_map.mpr ⟨x, hx, rfl⟩)
      have cases_ : ∀ z ∈ ps.map (fun x => (rneg x.1 (h.map (· / h.getD p 0)) p, x.2)) ++ [(h.map (· / h.getD p 0), p)], (∃ x ∈ ps, z = (rneg x.1 (h.map (· / h.getD p 0)) p, x.2)) ∨ z = (h.map (· / h.getD p 0), p) := fun z hz => by
        rcases List.mem_append.mp hz with hz | hz
        · obtain ⟨x, hx, rfl⟩ := List.mem_map.mp hz
          exact .inl ⟨x, hx, rfl⟩
        · exact .inr (List.mem_singleton.mp hz)
      refine ⟨fun z hz => ?_, fun z hz => ?_, fun z hz q hq => ?_, fun z hz y hy hne => ?_, ?_⟩
      · rcases cases_ z hz with ⟨x, hx, rfl⟩ | rfl
        · exact Nat.lt_succ_of_lt (H.lt x hx)
        · exact Nat.lt_succ_self p
      · rcases cases_ z hz with ⟨x, hx, rfl⟩ | rfl
        · dsimp only
          rw [rneg_get (mem1 x hx), hh0 _ (H.lt x hx), H.one x hx]
          grind
        · exact hh1
      · rcases cases_ z hz with ⟨x, hx, rfl⟩ | rfl
        · dsimp only at hq ⊢
          have := H.lt x hx
          rw [rneg_get (mem1 x hx), hh0 _ (by omega), H.ahead x hx q hq]
          grind
        · exact hh0 q hq
      · rcases cases_ z hz with ⟨x, hx, rfl⟩ | rfl
        · rcases cases_ y hy with ⟨w, hw', rfl⟩ | rfl
          · dsimp only at hne ⊢
            rw [rneg_get (mem1 x hx), hh0 _ (H.lt w hw'), H.alone x hx w hw' hne]
            grind
          · dsimp only at hne ⊢
            rw [rneg_get (mem1 x hx), hh1]
            grind
        · rcases cases_ y hy with ⟨w, hw', rfl⟩ | rfl
          · exact hh0 _ (H.lt w hw')
          · exact absurd rfl hne
      · refine List.pairwise_append.mpr ⟨?_, List.pairwise_singleton _ _, fun a ha b hb => ?_⟩
        · exact List.pairwise_map.mpr H.up
        · obtain ⟨x, hx, rfl⟩ := List.mem_map.mp ha
          rw [List.mem_singleton.mp hb]
          exact H.lt x hx
    · intro r hr
      dsimp only at hr
      rcases List.mem_append.mp hr with hr | hr
      · rcases List.mem_append.mp hr with hr | hr
        · obtain ⟨x, hx, rfl⟩ := List.mem_map.mp hr
          unfold rneg
          rw [radd_length (hl1 x hx)]
          exact hlen x (List.mem_append_left _ hx)
        · rw [List.mem_singleton.mp hr]; exact hwl
      · obtain ⟨x, hx, rfl⟩ := List.mem_map.mp hr
        unfold rneg
        rw [radd_length (hl2 x hx)]
        exact hlen x (List.mem_append_right _ (List.mem_of_mem_erase hx))
    · intro r hr q hq
      dsimp only at hr
      obtain ⟨x, hx, rfl⟩ := List.mem_map.mp hr
      rw [rneg_get (hl2 x hx)]
      by_cases e : q = p
      · subst e; rw [hh1]; grind
      · rw [hh0 q (by omega), hleft x (List.mem_of_mem_erase hx) q (by omega)]; grind
    · intro v
      rw [hsame v]
      have dh : dot W (h.map (· / h.getD p 0)) v = dot W h v / h.getD p 0 := dot_over h0
      constructor
      · intro hv r hr
        dsimp only at hr
        have hz : dot W (h.map (· / h.getD p 0)) v = 0 := by rw [dh, hv h (List.mem_append_right _ hm1)]; grind
        rcases List.mem_append.mp hr with hr | hr
        · rcases List.mem_append.mp hr with hr | hr
          · obtain ⟨x, hx, rfl⟩ := List.mem_map.mp hr
            rw [dot_rneg (hl1 x hx), hz, hv x (List.mem_append_left _ hx)]; grind
          · rw [List.mem_singleton.mp hr]; exact hz
        · obtain ⟨x, hx, rfl⟩ := List.mem_map.mp hr
          rw [dot_rneg (hl2 x hx), hz, hv x (List.mem_append_right _ (List.mem_of_mem_erase hx))]; grind
      · intro hv r hr
        dsimp only at hv
        have hz : dot W (h.map (· / h.getD p 0)) v = 0 := hv _ (List.mem_append_left _ (List.mem_append_right _ (List.mem_singleton.mpr rfl)))
        have hh : dot W h v = 0 := by rw [dh] at hz; grind
        rcases List.mem_append.mp hr with hr | hr
        · have := hv _ (List.mem_append_left _ (List.mem_append_left _ (List.mem_map.mpr ⟨r, hr, rfl⟩)))
          rw [dot_rneg (hl1 r hr), hz] at this
          grind
        · by_cases e : r = h
          · rw [e]; exact hh
          · have hr' : r ∈ st.2.erase h := (List.mem_erase_of_ne e).mpr hr
            have := hv _ (List.mem_append_right _ (List.mem_map.mpr ⟨r, hr', rfl⟩))
            rw [dot_rneg (hl2 r hr'), hz] at this
            grind
    · dsimp only
      rw [List.length_append, List.length_map, List.length_map, List.length_singleton, List.length_erase_of_mem hm1]
      have : 0 < st.2.length := List.length_pos_of_mem hm1
      omega
end Mf
set_option Elab.async false
set_option linter.all false
set_option maxRecDepth 100000
set_option maxHeartbeats 1000000
namespace Mf
open PySem L2
def kv (g : Nat → D) (L : List Nat) : List (Str × D) := L.map fun j => (nm j, g j)
def mget (ms : List (List Rat)) (j pl : Nat) : Rat := (ms.getD j []).getD pl 0
theorem Tab.get {ms : List (List Rat)} (T : Tab ms) {j : Nat} (h : j < 6) : ms.getD j [] ∈ ms := by
  rw [List.getD_eq_getElem?_getD, List.getElem?_eq_getElem (by rw [T.six]; exact h)]
  exact List.getElem_mem _
theorem Tab.mget {ms : List (List Rat)} (T : Tab ms) {j pl : Nat} (h : j < 6) (hp : pl < 3) : Mf.sm (Mf.mget ms j pl) := by
  have := T.get h
  exact T.sm _ this _ (getD_mem (by rw [T.three _ this]; exact hp))
end Mf
set_option Elab.async false
set_option linter.all false
set_option maxRecDepth 100000
set_option maxHeartbeats 1000000
namespace Mf
def elim (h : List Int) (p : Nat) (r : List Int) : List Int := (r.zip h).map fun z => z.1 * h.getD p 0 - z.2 * r.getD p 0
def rk : Nat → Nat → List (List Int) → Nat
  | 0, _, _ => 0
  | n + 1, p, l => match l.filter (fun r => decide (r.getD p 0 ≠ 0)) with
    | [] => rk n (p + 1) l
    | h :: _ => rk n (p + 1) ((l.erase h).map (elim h p)) + 1
theorem elim_get {h r : List Int} {p q : Nat} (hl : r.length = h.length) : (elim h p r).getD q 0 = r.getD q 0 * h.getD p 0 - h.getD q 0 * r.getD p 0 := by
  unfold elim
  simp only [List.getD_eq_getElem?_getD, List.getElem?_map, List.zip]
  by_cases hq : q < r.length
  · rw [List.getElem?_zipWith, List.getElem?_eq_getElem hq, List.getElem?_eq_getElem (show q < h.length by omega)]
    rfl
  · rw [List.getElem?_zipWith, List.getElem?_eq_none (l := r) (i := q) (by omega), List.getElem?_eq_none (l := h) (i := q) (by omega)]
    simp
theorem elim_len {h r : List Int} {p : Nat} (hl : r.length = h.length) : (elim h p r).length = r.length := by simp [elim, hl]
def InS (W : Nat) : List (List Int) → (Nat → Rat) → Prop
  | [], v => ∀ q < W, v q = 0
  | x :: L, v => ∃ c : Rat, InS W L fun q => v q - c * (x.getD q 0 : Int)
theorem InS.zero {W : Nat} : ∀ {L : List (List Int)} {v : Nat → Rat}, (∀ q < W, v q = 0) → InS W L v
  | [], _, h => h
  | x :: L, v, h => ⟨0, InS.zero fun q hq => by rw [h q hq]; grind⟩
theorem InS.congr {W : Nat} : ∀ {L : List (List Int)} {v w : Nat → Rat}, (∀ q, v q = w q) → InS W L v → InS W L w := by
  intro L v w h z
  have : v = w := funext h
  exact this ▸ z
theorem InS.at {W p : Nat} (hp : p < W) : ∀ {L : List (List Int)} {v : Nat → Rat}, (∀ x ∈ L, x.getD p 0 = 0) → InS W L v → v p = 0
  | [], v, _, h => h p hp
  | x :: L, v, hz, ⟨c, h⟩ => by
    have := InS.at hp (fun y hy => hz y (List.mem_cons_of_mem _ hy)) h
    rw [hz x List.mem_cons_self] at this
    grind
theorem InS.erase {W : Nat} {h : List Int} : ∀ {L : List (List Int)} {v : Nat → Rat}, h ∈ L → (InS W L v ↔ ∃ c : Rat, InS W (L.erase h) fun q => v q - c * (h.getD q 0 : Int))
  | x :: L, v, hm => by
    by_cases e : x = h
    · subst e
      rw [List.erase_cons_head]
      exact Iff.rfl
    · have hm' : h ∈ L := by rcases List.mem_cons.mp hm with z | z; exact absurd z.symm e; exact z
      rw [List.erase_cons_tail (by simpa using e)]
      constructor
      · rintro ⟨c, z⟩
        obtain ⟨d, z⟩ := (InS.erase hm').mp z
        exact ⟨d, c, z.congr fun q => by grind⟩
      · rintro ⟨d, c, z⟩
        exact ⟨c, (InS.erase hm').mpr ⟨d, z.congr fun q => by grind⟩⟩
theorem InS.elim {W p : Nat} {h : List Int} (hp : p < W) (h0 : h.getD p 0 ≠ 0) : ∀ {M : List (List Int)} {v : Nat → Rat}, (∀ x ∈ M, x.length = h.length) →
    (InS W (M.map (elim h p)) (fun q => v q * (h.getD p 0 : Int) - (h.getD q 0 : Int) * v p) ↔ ∃ c : Rat, InS W M fun q => v q - c * (h.getD q 0 : Int))
  | [], v, _ => by
    have ha : ((h.getD p 0 : Int) : Rat) ≠ 0 := by exact_mod_cast h0
    constructor
    · intro z
      refine ⟨v p / (h.getD p 0 : Int), fun q hq => ?_⟩
      have := z q hq
      grind
    · rintro ⟨c, z⟩ q hq
      have z1 := z q hq
      have z2 := z p hp
      grind
  | x :: M, v, hl => by
    have hl' := fun y hy => hl y (List.mem_cons_of_mem _ hy)
    have hx := hl x List.mem_cons_self
    have key : ∀ d : Rat, (InS W (M.map (Mf.elim h p)) (fun q => (v q * (h.getD p 0 : Int) - (h.getD q 0 : Int) * v p) - d * ((Mf.elim h p x).getD q 0 : Int)) ↔ ∃ c : Rat, InS W M fun q => (v q - d * (x.getD q 0 : Int)) - c * (h.getD q 0 : Int)) := fun d => by
      have ih := InS.elim (W := W) hp h0 (M := M) (v := fun q => v q - d * (x.getD q 0 : Int)) hl'
      have e : (fun q => (v q * (h.getD p 0 : Int) - (h.getD q 0 : Int) * v p) - d * ((Mf.elim h p x).getD q 0 : Int)) = (fun q => (v q - d * (x.getD q 0 : Int)) * (h.getD p 0 : Int) - (h.getD q 0 : Int) * (v p - d * (x.getD p 0 : Int))) := by
        funext q
        rw [elim_get hx]
        push_cast
        grind
      rw [e]
      exact ih
    constructor
    · rintro ⟨d, z⟩
      obtain ⟨c, z⟩ := (key d).mp z
      exact ⟨c, d, z.congr fun q => by grind⟩
    · rintro ⟨c, d, z⟩
      exact ⟨d, (key d).mpr ⟨c, z.congr fun q => by grind⟩⟩
inductive Sc : List (List Int) → List (List Int) → Prop
  | nil : Sc [] []
  | cons {x y : List Int} {l m : List (List Int)} {c : Int} : c ≠ 0 → x.length = y.length → (∀ q, y.getD q 0 = c * x.getD q 0) → Sc l m → Sc (x :: l) (y :: m)
theorem split_at (p : Nat) : ∀ l : List (List Int), (∀ x ∈ l, x.getD p 0 = 0) ∨ ∃ A h B, l = A ++ h :: B ∧ (∀ x ∈ A, x.getD p 0 = 0) ∧ h.getD p 0 ≠ 0
  | [] => .inl fun _ h => (nomatch h)
  | x :: l => by
    by_cases e : x.getD p 0 = 0
    · rcases split_at p l with h | ⟨A, h, B, rfl, h1, h2⟩
      · refine .inl fun y hy => ?_
        rcases List.mem_cons.mp hy with z | z
        · rw [z]; exact e
        · exact h y z
      · refine .inr ⟨x :: A, h, B, rfl, fun y hy => ?_, h2⟩
        rcases List.mem_cons.mp hy with z | z
        · rw [z]; exact e
        · exact h1 y z
    · exact .inr ⟨[], x, l, rfl, fun _ h => (nomatch h), e⟩
theorem rk_none {n p : Nat} {l : List (List Int)} (h : ∀ x ∈ l, x.getD p 0 = 0) : rk (n + 1) p l = rk n (p + 1) l := by
  have : l.filter (fun r => decide (r.getD p 0 ≠ 0)) = [] := List.filter_eq_nil_iff.mpr fun x hx => by have := h x hx; simpa using this
  rw [rk, this]
theorem rk_some {n p : Nat} {A B : List (List Int)} {h : List Int} (hA : ∀ x ∈ A, x.getD p 0 = 0) (h0 : h.getD p 0 ≠ 0) : rk (n + 1) p (A ++ h :: B) = rk n (p + 1) ((A ++ B).map (elim h p)) + 1 := by
  have e1 : (A ++ h :: B).filter (fun r => decide (r.getD p 0 ≠ 0)) = h :: B.filter (fun r => decide (r.getD p 0 ≠ 0)) := by
    rw [List.filter_append, List.filter_eq_nil_iff.mpr (fun x hx => by have := hA x hx; simpa using this), List.filter_cons, if_pos (decide_eq_true h0), List.nil_append]
  have e2 : (A ++ h :: B).erase h = A ++ B := by
    rw [List.erase_append_right _ fun z => h0 (hA h z), List.erase_cons_head]
  rw [rk, e1]
  dsimp only
  rw [e2]
theorem Sc.split {h : List Int} : ∀ {A B m : List (List Int)}, Sc (A ++ h :: B) m → ∃ A' h' B' c, m = A' ++ h' :: B' ∧ Sc A A' ∧ Sc B B' ∧ c ≠ 0 ∧ h.length = h'.length ∧ ∀ q, h'.getD q 0 = c * h.getD q 0
  | [], B, _, .cons (c := c) h1 h2 h3 h4 => ⟨[], _, _, c, rfl, .nil, h4, h1, h2, h3⟩
  | x :: A, B, _, .cons (y := y) h1 h2 h3 h4 => by
    obtain ⟨A', h', B', c, rfl, a, b, d, e, f⟩ := Sc.split h4
    exact ⟨y :: A', h', B', c, rfl, .cons h1 h2 h3 a, b, d, e, f⟩
theorem Sc.append : ∀ {A A' B B' : List (List Int)}, Sc A A' → Sc B B' → Sc (A ++ B) (A' ++ B')
  | _, _, _, _, .nil, h => h
  | _, _, _, _, .cons a b c d, h => .cons a b c (Sc.append d h)
theorem Sc.zero {p : Nat} : ∀ {A A' : List (List Int)}, Sc A A' → (∀ x ∈ A, x.getD p 0 = 0) → ∀ x ∈ A', x.getD p 0 = 0
  | _, _, .nil, _, x, hx => (nomatch hx)
  | _, _, .cons (c := c) h1 h2 h3 h4, hz, x, hx => by
    rcases List.mem_cons.mp hx with e | e
    · rw [e, h3, hz _ List.mem_cons_self]; simp
    · exact Sc.zero h4 (fun y hy => hz y (List.mem_cons_of_mem _ hy)) x e
theorem Sc.elim {h h' : List Int} {p : Nat} {c : Int} (hc : c ≠ 0) (hl : h.length = h'.length) (hh : ∀ q, h'.getD q 0 = c * h.getD q 0) : ∀ {A A' : List (List Int)}, Sc A A' → (∀ x ∈ A, x.length = h.length) → Sc (A.map (Mf.elim h p)) (A'.map (Mf.elim h' p))
  | _, _, .nil, _ => .nil
  | _, _, .cons (x := x) (y := y) (c := d) h1 h2 h3 h4, hx => by
    have hx0 := hx x List.mem_cons_self
    refine .cons (c := c * d) (Int.mul_ne_zero hc h1) ?_ (fun q => ?_) (Sc.elim hc hl hh h4 fun z hz => hx z (List.mem_cons_of_mem _ hz))
    · rw [elim_len hx0, elim_len (by omega)]; exact h2
    · rw [elim_get hx0, elim_get (by omega), hh, hh, h3, h3]
      grind
theorem Sc.len {W : Nat} : ∀ {A A' : List (List Int)}, Sc A A' → (∀ x ∈ A, x.length = W) → ∀ x ∈ A', x.length = W
  | _, _, .nil, _, x, hx => (nomatch hx)
  | _, _, .cons h1 h2 h3 h4, hz, x, hx => by
    rcases List.mem_cons.mp hx with e | e
    · rw [e, ← h2]; exact hz _ List.mem_cons_self
    · exact Sc.len h4 (fun y hy => hz y (List.mem_cons_of_mem _ hy)) x e
theorem Sc.rk {W : Nat} : ∀ (n p : Nat) {l m : List (List Int)}, Sc l m → (∀ x ∈ l, x.length = W) → Mf.rk n p l = Mf.rk n p m
  | 0, _, _, _, _, _ => rfl
  | n + 1, p, l, m, s, hl => by
    rcases split_at p l with h | ⟨A, h, B, rfl, h1, h2⟩
    · rw [rk_none h, rk_none (s.zero h)]
      exact Sc.rk n (p + 1) s hl
    · obtain ⟨A', h', B', c, rfl, a, b, d, e, f⟩ := s.split
      have hh : h.length = W := hl h (by simp)
      have hAB : ∀ x ∈ A ++ B, x.length = W := fun x hx => hl x (by rcases List.mem_append.mp hx with z | z <;> simp [z])
      rw [rk_some h1 h2, rk_some (a.zero h1) (by rw [f]; exact Int.mul_ne_zero d h2)]
      congr 1
      refine Sc.rk (W := W) n (p + 1) ((a.append b).elim d e f fun x hx => by rw [hAB x hx, hh]) fun x hx => ?_
      obtain ⟨y, hy, rfl⟩ := List.mem_map.mp hx
      rw [elim_len (by rw [hAB y hy, hh]), hAB y hy]
end Mf
set_option Elab.async false
set_option linter.all false
set_option maxRecDepth 100000
set_option maxHeartbeats 1000000
namespace Mf
section
variable {ms : List (List Rat)} {i : Nat} (T : Tab ms) (hi : i < 6)
include T hi
end
end Mf
set_option Elab.async false
set_option linter.all false
set_option maxRecDepth 100000
set_option maxHeartbeats 1000000
namespace Mf
open PySem L2
theorem igetD_mem {r : List Int} {p : Nat} (h : p < r.length) : r.getD p 0 ∈ r := by
  rw [List.getD_eq_getElem?_getD, List.getElem?_eq_getElem h]
  exact List.getElem_mem h
theorem sub_lt {i j : Int} {a : Nat} (hi : i.natAbs < 2 ^ a) (hj : j.natAbs < 2 ^ a) : (i - j).natAbs < 2 ^ (a + 1) := by
  rw [Int.sub_eq_add_neg]
  exact add_lt hi (by rwa [Int.natAbs_neg])
def bi (B : Nat) : Nat → Nat
  | 0 => B
  | j + 1 => 2 * bi B j + 1
theorem seq_asg {S : Type} {own : Bool} {i : Nat} {e : CE S} {cs : CSs S} {ρ ρ' : List SV} {s : S} {x : K3 × D} {r : Out S} (h : ev e ρ s = .ok x s) {v : SV} (hv : stow own x = some v) (hp : put ρ i v = some ρ') (h2 : runs cs ρ' s = r) : runs (.cons (.asg own i e) cs) ρ s = r := seq_nx (run_asgq h hv hp) h2
theorem seq_ret {S : Type} {e : CE S} {cs : CSs S} {ρ : List SV} {s : S} {k : K3} {d : D} (h : ev e ρ s = .ok (k, d) s) (hk : k ≠ .o) : runs (.cons (.ret e) cs) ρ s = .rt d s := seq_rt (run_retq h hk)
theorem seq_if {S : Type} {t : CE S} {a b cs : CSs S} {ρ : List SV} {s : S} {k : Bool} {k3 : K3} {r : Out S} (h : ev t ρ s = .ok (k3, .bl k) s) (h2 : (if k then runs a ρ s else runs b ρ s).sq (runs cs) = r) : runs (.cons (.ife t a b) cs) ρ s = r := by
  rw [runs_cons, run_ifq h rfl]
  exact h2
end Mf
set_option Elab.async false
set_option linter.all false
set_option maxRecDepth 100000
set_option maxHeartbeats 1000000
namespace Mf
open PySem L2
section
variable {ms : List (List Rat)} {i : Nat} (T : Tab ms) (hi : i < 6)
include T hi
omit hi in
end

def acc (ms : List (List Rat)) (c : Nat → Rat) (k : Nat) : List Rat := (List.range 3).map fun pl => sumTo k fun j => mget ms j pl * c j
end Mf
set_option Elab.async false
set_option linter.all false
set_option maxRecDepth 100000
set_option maxHeartbeats 1000000
namespace Mf
open PySem L2
def RW (B E W : Nat) (r : List Rat) : Prop := ∃ (R : List Int) (d : Nat), 0 < d ∧ d < 2 ^ E ∧ R.length = W ∧ (∀ x ∈ R, x.natAbs < 2 ^ B) ∧ r = R.map fun (x : Int) => (x : Rat) / (d : Rat)
theorem rat_divInt (a : Int) (d : Nat) : (a : Rat) / (d : Rat) = Rat.divInt a d := by
  rw [Rat.divInt_eq_div]
  rfl
theorem RW.bds {B E W C : Nat} {r : List Rat} (h : RW B E W r) (hB : B ≤ C) (hE : E ≤ C) : bds C r := by
  obtain ⟨R, d, h0, h1, h2, h3, rfl⟩ := h
  intro x hx
  obtain ⟨y, hy, rfl⟩ := List.mem_map.mp hx
  rw [rat_divInt]
  exact bd_divInt (by omega) (Nat.lt_of_lt_of_le (h3 y hy) (Nat.pow_le_pow_right (by decide) hB)) (by rw [Int.natAbs_natCast]; exact Nat.lt_of_lt_of_le h1 (Nat.pow_le_pow_right (by decide) hE))
theorem RW.len {B E W : Nat} {r : List Rat} (h : RW B E W r) : r.length = W := by
  obtain ⟨R, d, h0, h1, h2, h3, rfl⟩ := h
  rw [List.length_map, h2]
theorem RW.mono {B E W B' E' : Nat} {r : List Rat} (h : RW B E W r) (hB : B ≤ B') (hE : E ≤ E') : RW B' E' W r := by
  obtain ⟨R, d, h0, h1, h2, h3, rfl⟩ := h
  exact ⟨R, d, h0, Nat.lt_of_lt_of_le h1 (Nat.pow_le_pow_right (by decide) hE), h2, fun x hx => Nat.lt_of_lt_of_le (h3 x hx) (Nat.pow_le_pow_right (by decide) hB), rfl⟩
theorem getD_map_div {R : List Int} {d : Nat} {p : Nat} : (R.map fun (x : Int) => (x : Rat) / (d : Rat)).getD p 0 = (R.getD p 0 : Rat) / (d : Rat) := by
  simp only [List.getD_eq_getElem?_getD, List.getElem?_map]
  cases R[p]? with
  | none => simp; grind
  | some x => rfl
theorem RW.neg {B E W p : Nat} {r h : List Rat} (H : RW B B W h) (Hr : RW B E W r) (hp : p < W) : RW (2 * B + 1) (E + B) W (rneg r h p) := by
  obtain ⟨R, d, d0, d1, d2, d3, rfl⟩ := Hr
  obtain ⟨S, e, e0, e1, e2, e3, rfl⟩ := H
  have hd : (d : Rat) ≠ 0 := by
    intro z
    have : d = 0 := by exact_mod_cast z
    omega
  have he : (e : Rat) ≠ 0 := by
    intro z
    have : e = 0 := by exact_mod_cast z
    omega
  refine ⟨(R.zip S).map fun z => z.1 * (e : Int) - z.2 * R.getD p 0, d * e, Nat.mul_pos d0 e0, by rw [Nat.pow_add]; exact Nat.mul_lt_mul'' d1 e1, by simp; omega, fun x hx => ?_, ?_⟩
  · obtain ⟨z, hz, rfl⟩ := List.mem_map.mp hx
    have hz' := List.of_mem_zip hz
    have e4 : 2 * B + 1 = (B + B) + 1 := by omega
    rw [e4]
    exact sub_lt (mul_lt (d3 _ hz'.1) (by rw [Int.natAbs_natCast]; exact e1)) (mul_lt (e3 _ hz'.2) (d3 _ (igetD_mem (by omega))))
  · unfold rneg radd
    rw [getD_map_div, List.zip_map, List.map_map, List.map_map]
    refine List.map_congr_left fun z hz => ?_
    show (z.1 : Rat) / (d : Rat) + (z.2 : Rat) / (e : Rat) * ((R.getD p 0 : Rat) / (d : Rat) * -1) = ((z.1 * (e : Int) - z.2 * R.getD p 0 : Int) : Rat) / ((d * e : Nat) : Rat)
    push_cast
    grind
end Mf
set_option Elab.async false
set_option linter.all false
set_option maxRecDepth 100000
set_option maxHeartbeats 1000000
namespace Mf
theorem InS.smul {W : Nat} {c : Rat} : ∀ {L : List (List Int)} {v : Nat → Rat}, InS W L v → InS W L fun q => c * v q
  | [], v, h => fun q hq => by show c * v q = 0; rw [h q hq]; grind
  | x :: L, v, ⟨d, h⟩ => ⟨c * d, (InS.smul (c := c) h).congr fun q => by grind⟩
theorem InS.add {W : Nat} : ∀ {L : List (List Int)} {v w : Nat → Rat}, InS W L v → InS W L w → InS W L fun q => v q + w q
  | [], v, w, h, h' => fun q hq => by show v q + w q = 0; rw [h q hq, h' q hq]; grind
  | x :: L, v, w, ⟨c, h⟩, ⟨d, h'⟩ => ⟨c + d, (InS.add h h').congr fun q => by grind⟩
theorem InS.mem {W : Nat} {x : List Int} : ∀ {L : List (List Int)}, x ∈ L → InS W L fun q => (x.getD q 0 : Int)
  | y :: L, h => by
    by_cases e : x = y
    · subst e
      exact ⟨1, InS.zero fun q _ => by grind⟩
    · rcases List.mem_cons.mp h with z | z
      · exact absurd z e
      · exact ⟨0, (InS.mem z).congr fun q => by grind⟩
theorem InS.trans {W : Nat} : ∀ {L M : List (List Int)} {v : Nat → Rat}, InS W L v → (∀ x ∈ L, InS W M fun q => (x.getD q 0 : Int)) → InS W M v
  | [], M, v, h, _ => InS.zero h
  | x :: L, M, v, ⟨c, h⟩, k => by
    have h1 := InS.trans h fun y hy => k y (List.mem_cons_of_mem _ hy)
    exact (InS.add h1 (InS.smul (c := c) (k x List.mem_cons_self))).congr fun q => by grind
end Mf
set_option Elab.async false
set_option linter.all false
set_option maxRecDepth 100000
set_option maxHeartbeats 1000000
namespace Mf
def fv (ps : List (List Rat × Nat)) (p : Nat) : Nat → Rat := fun q => if q = p then 1 else match ps.find? (fun x => decide (x.2 = q)) with | some x => - x.1.getD p 0 | none => 0
def KerEq (W : Nat) (ps qs : List (List Rat × Nat)) : Prop := ∀ v, (∀ x ∈ ps, dot W x.1 v = 0) ↔ ∀ y ∈ qs, dot W y.1 v = 0
section
variable {W : Nat} {ps qs : List (List Rat × Nat)}
theorem Hd.inj (H : Hd W ps) {x y : List Rat × Nat} (hx : x ∈ ps) (hy : y ∈ ps) (e : x.2 = y.2) : x = y := by
  have key : ∀ {l : List (List Rat × Nat)}, l.Pairwise (fun a b => a.2 < b.2) → ∀ x ∈ l, ∀ y ∈ l, x.2 = y.2 → x = y := by
    intro l h
    induction h with
    | nil => intro x hx; cases hx
    | cons h1 _ ih =>
      intro x hx y hy e
      rcases List.mem_cons.mp hx with a | a
      · rcases List.mem_cons.mp hy with b | b
        · rw [a, b]
        · have := h1 y b
          rw [← a] at this
          omega
      · rcases List.mem_cons.mp hy with b | b
        · have := h1 x a
          rw [← b] at this
          omega
        · exact ih x a y b e
  exact key H.up x hx y hy e
theorem KerEq.symm (K : KerEq W ps qs) : KerEq W qs ps := fun v => (K v).symm
end
end Mf
set_option Elab.async false
set_option linter.all false
set_option maxRecDepth 100000
set_option maxHeartbeats 1000000
namespace Mf
open PySem L2
inductive B4 where | plus | minus | times | over
inductive Fm where
  | nm (i : Nat) | nu (k : Int) | bi (o : B4) (p q : Fm) | pw (p : Fm) (k : Int) | rt (p : Fm) | wv (p : Fm)
def B4.w : B4 → Str
  | .plus => "plus" | .minus => "minus" | .times => "times" | .over => "over"
def Fm.D : Fm → D
  | .nm i => .tup [.str "name", .str (Mf.nm i)]
  | .nu k => .tup [.str "number", .int k]
  | .bi o p q => .tup [.str o.w, p.D, q.D]
  | .pw p k => .tup [.str "power", p.D, .int k]
  | .rt p => .tup [.str "root", p.D]
  | .wv p => .tup [.str "wave", p.D]
def Fm.dep : Fm → Nat
  | .nm _ => 1 | .nu _ => 1
  | .bi _ p q => max p.dep q.dep + 1
  | .pw p _ => p.dep + 1 | .rt p => p.dep + 1 | .wv p => p.dep + 1
def Fm.ok : Fm → Prop
  | .nm i => i < 6 | .nu k => 1 ≤ k ∧ k ≤ 9
  | .bi _ p q => p.ok ∧ q.ok
  | .pw p k => p.ok ∧ -3 ≤ k ∧ k ≤ 3 | .rt p => p.ok | .wv p => p.ok
theorem Fm.dep_pos : ∀ f : Fm, 1 ≤ f.dep
  | .nm _ => Nat.le_refl _ | .nu _ => Nat.le_refl _
  | .bi _ _ _ => Nat.succ_le_succ (Nat.zero_le _) | .pw _ _ => Nat.succ_le_succ (Nat.zero_le _) | .rt _ => Nat.succ_le_succ (Nat.zero_le _) | .wv _ => Nat.succ_le_succ (Nat.zero_le _)
def zero6 : List Rat := [0, 0, 0, 0, 0, 0]
def ex : Fm → List Rat
  | .nm i => (List.range 6).map fun j => if j = i then 1 else 0
  | .nu _ => zero6
  | .bi o p q => match o with
    | .times => radd (ex p) (ex q) 1
    | .over => radd (ex p) (ex q) (-1)
    | _ => ex p
  | .pw p k => (ex p).map (· * (k : Rat))
  | .rt p => (ex p).map (· * Rat.divInt 1 2)
  | .wv _ => zero6
def dm : Fm → List (List Rat)
  | .nm _ => [] | .nu _ => []
  | .bi o p q => match o with
    | .times => dm p ++ dm q
    | .over => dm p ++ dm q
    | _ => dm p ++ dm q ++ [radd (ex p) (ex q) (-1)]
  | .pw p _ => dm p | .rt p => dm p
  | .wv p => dm p ++ [ex p]
def ladd (a b : List Int) (s : Int) : List Int := (a.zip b).map fun z => z.1 + s * z.2
def lex : Fm → List Int
  | .nm i => (List.range 6).map fun j => 16 * (if j = i then 1 else 0)
  | .nu _ => [0, 0, 0, 0, 0, 0]
  | .bi o p q => match o with
    | .times => ladd (lex p) (lex q) 1
    | .over => ladd (lex p) (lex q) (-1)
    | _ => lex p
  | .pw p k => (lex p).map (· * k)
  | .rt p => (lex p).map fun x => x.fdiv 2
  | .wv _ => [0, 0, 0, 0, 0, 0]
def d16 (r : List Int) : List Rat := r.map fun (x : Int) => (x : Rat) / 16
structure LexOk (f : Fm) : Prop where
  len : (lex f).length = 6
  dvd : ∀ x ∈ lex f, (2 : Int) ^ (5 - f.dep) ∣ x
  bd : ∀ x ∈ lex f, x.natAbs ≤ 16 * 3 ^ (f.dep - 1)
  eq : ex f = d16 (lex f)
end Mf
set_option Elab.async false
set_option linter.all false
set_option maxRecDepth 100000
set_option maxHeartbeats 1000000
namespace Mf
open PySem L2
def mkS (l : List Nat) : Str := ⟨l.toArray⟩
theorem mkS_len (l : List Nat) : (mkS l).length = l.length := by show l.toArray.size = _; simp
theorem mkS_cps (l : List Nat) : (mkS l).cps.toList = l := by show l.toArray.toList = l; simp
theorem mkS_inj {a b : List Nat} (h : mkS a = mkS b) : a = b := by rw [← mkS_cps a, h, mkS_cps]
theorem mkS_app (a b : List Nat) : mkS a ++ mkS b = mkS (a ++ b) := by
  show (⟨a.toArray ++ b.toArray⟩ : Str) = ⟨(a ++ b).toArray⟩
  simp
def sl (l : List Nat) (lo hi : Option Int) : List Nat := (l.drop (HT.sIx l.length 0 lo)).take (HT.sIx l.length l.length hi - HT.sIx l.length 0 lo)
theorem cut_mk (l : List Nat) (lo hi : Option Int) : cutS (mkS l) lo hi = mkS (sl l lo hi) := by
  unfold cutS sl
  rw [mkS_len, mkS_cps]
  rfl
theorem sl_len (l : List Nat) (lo hi : Option Int) : (sl l lo hi).length ≤ l.length := by
  unfold sl
  rw [List.length_take, List.length_drop]
  omega
theorem sl_mid (a b c : List Nat) : sl (a ++ (b ++ c)) (some (a.length : Int)) (some ((a.length + b.length : Nat) : Int)) = b := by
  unfold sl
  rw [HT.sIx_nat, HT.sIx_nat, List.length_append, List.length_append]
  have e1 : min a.length (a.length + (b.length + c.length)) = a.length := by omega
  have e2 : min (a.length + b.length) (a.length + (b.length + c.length)) - a.length = b.length := by omega
  rw [e1, e2, List.drop_left, List.take_left]
theorem sl_but (a b : List Nat) (z : Nat) : sl (a ++ (b ++ [z])) (some (a.length : Int)) (some (-1)) = b := by
  unfold sl
  rw [HT.sIx_nat, List.length_append, List.length_append]
  have e1 : min a.length (a.length + (b.length + [z].length)) = a.length := by omega
  have e2 : HT.sIx (a.length + (b.length + [z].length)) (a.length + (b.length + [z].length)) (some (-1)) = a.length + b.length := by
    show (if (-1 : Int) < 0 then ((-1 : Int) + ((a.length + (b.length + [z].length) : Nat) : Int)).toNat else min (-1 : Int).toNat (a.length + (b.length + [z].length))) = a.length + b.length
    rw [if_pos (by omega)]
    simp only [List.length_cons, List.length_nil]
    omega
  have e3 : a.length + b.length - a.length = b.length := by omega
  rw [e1, e2, e3, List.drop_left, List.take_left]
theorem sl_from (a b : List Nat) : sl (a ++ b) (some (a.length : Int)) none = b := by
  unfold sl
  rw [HT.sIx_nat, HT.sIx_none, List.length_append]
  have e1 : min a.length (a.length + b.length) = a.length := by omega
  have e3 : a.length + b.length - a.length = b.length := by omega
  rw [e1, e3, List.drop_left, List.take_length]
theorem sl_to (a b : List Nat) : sl (a ++ b) none (some (a.length : Int)) = a := by
  unfold sl
  rw [HT.sIx_nat, HT.sIx_none, List.length_append]
  have e1 : min a.length (a.length + b.length) - 0 = a.length := by omega
  rw [e1, List.drop_zero, List.take_left]
def nuT (k : Int) : List Nat := if k < 0 then [45, 48 + k.natAbs] else [48 + k.natAbs]
def B4.c : B4 → Nat
  | .plus => 43 | .minus => 45 | .times => 42 | .over => 47
def tx : Fm → List Nat
  | .nm i => [97 + i]
  | .nu k => [48 + k.natAbs]
  | .bi o p q => 40 :: (tx p ++ (32 :: o.c :: 32 :: (tx q ++ [41])))
  | .pw p k => 91 :: (tx p ++ (93 :: 94 :: nuT k))
  | .rt p => [115, 113, 114, 116, 91] ++ (tx p ++ [93])
  | .wv p => [119, 97, 118, 101, 91] ++ (tx p ++ [93])
theorem nuT_len (k : Int) : (nuT k).length ≤ 2 := by unfold nuT; split <;> simp
theorem tx_len : ∀ f : Fm, (tx f).length + 6 ≤ 4 * 2 ^ f.dep
  | .nm i => by simp [tx, Fm.dep]
  | .nu k => by simp [tx, Fm.dep]
  | .bi o p q => by
    have h1 := tx_len p
    have h2 := tx_len q
    have h3 : 2 ^ p.dep ≤ 2 ^ max p.dep q.dep := Nat.pow_le_pow_right (by omega) (Nat.le_max_left _ _)
    have h4 : 2 ^ q.dep ≤ 2 ^ max p.dep q.dep := Nat.pow_le_pow_right (by omega) (Nat.le_max_right _ _)
    simp only [tx, Fm.dep, List.length_cons, List.length_append, List.length_nil, Nat.pow_succ]
    omega
  | .pw p k => by
    have h1 := tx_len p
    have h2 := nuT_len k
    simp only [tx, Fm.dep, List.length_cons, List.length_append, Nat.pow_succ]
    omega
  | .rt p => by
    have h1 := tx_len p
    simp only [tx, Fm.dep, List.length_cons, List.length_append, List.length_nil, Nat.pow_succ]
    omega
  | .wv p => by
    have h1 := tx_len p
    simp only [tx, Fm.dep, List.length_cons, List.length_append, List.length_nil, Nat.pow_succ]
    omega
theorem tx_58 {f : Fm} (h : f.dep ≤ 4) : (tx f).length ≤ 58 := by
  have h1 := tx_len f
  have h2 : 2 ^ f.dep ≤ 2 ^ 4 := Nat.pow_le_pow_right (by omega) h
  omega
def opn (c : Nat) : Int := if decide (c ∈ [40, 91]) then 1 else 0
def cls (c : Nat) : Int := if decide (c ∈ [41, 93]) then 1 else 0
def splitP : Int → Nat → List Nat → Int
  | _, _, [] => -1
  | d, i, c :: cs => if d + opn c - cls c = 1 ∧ c = 32 then (i : Int) else splitP (d + opn c - cls c) (i + 1) cs
def opn1 (c : Nat) : Int := if decide (c = 91) then 1 else 0
def cls1 (c : Nat) : Int := if decide (c = 93) then 1 else 0
def closeP : Int → Nat → List Nat → Int
  | _, _, [] => -1
  | d, i, c :: cs => if d + opn1 c - cls1 c = 0 then (i : Int) else closeP (d + opn1 c - cls1 c) (i + 1) cs
def calmS (c : Nat) : Bool := !(c == 40) && !(c == 41) && !(c == 91) && !(c == 93) && !(c == 32)
theorem split_calm {d : Int} {r : List Nat} : ∀ (l : List Nat), (l.all calmS) = true → ∀ i : Nat, splitP d i (l ++ r) = splitP d (i + l.length) r
  | [], _, i => rfl
  | c :: cs, h, i => by
    rw [List.all_cons, Bool.and_eq_true] at h
    have hc := h.1
    unfold calmS at hc
    simp only [Bool.and_eq_true, Bool.not_eq_true', beq_eq_false_iff_ne] at hc
    obtain ⟨⟨⟨⟨c1, c2⟩, c3⟩, c4⟩, c5⟩ := hc
    have e1 : opn c = 0 := by unfold opn; simp [c1, c3]
    have e2 : cls c = 0 := by unfold cls; simp [c2, c4]
    rw [List.cons_append, splitP, e1, e2, if_neg (fun z => c5 z.2), show d + 0 - 0 = d by omega, split_calm cs h.2, List.length_cons, show i + 1 + cs.length = i + (cs.length + 1) by omega]
theorem nuT_calm {k : Int} (h1 : -3 ≤ k) (h2 : k ≤ 3) : (nuT k).all calmS = true := by
  have : k = -3 ∨ k = -2 ∨ k = -1 ∨ k = 0 ∨ k = 1 ∨ k = 2 ∨ k = 3 := by omega
  rcases this with rfl | rfl | rfl | rfl | rfl | rfl | rfl <;> rfl
theorem b4_calm (o : B4) : calmS o.c = true := by cases o <;> rfl
theorem split_step {d : Int} {i c : Nat} {r : List Nat} (h : ¬ (d + opn c - cls c = 1 ∧ c = 32)) : splitP d i (c :: r) = splitP (d + opn c - cls c) (i + 1) r := by rw [splitP, if_neg h]
theorem split_40 {d : Int} {i : Nat} {r : List Nat} : splitP d i (40 :: r) = splitP (d + 1) (i + 1) r := by
  rw [split_step (fun z => absurd z.2 (by decide)), show d + opn 40 - cls 40 = d + 1 by (show d + 1 - 0 = d + 1); omega]
theorem split_91 {d : Int} {i : Nat} {r : List Nat} : splitP d i (91 :: r) = splitP (d + 1) (i + 1) r := by
  rw [split_step (fun z => absurd z.2 (by decide)), show d + opn 91 - cls 91 = d + 1 by (show d + 1 - 0 = d + 1); omega]
theorem split_41 {d : Int} {i : Nat} {r : List Nat} : splitP (d + 1) i (41 :: r) = splitP d (i + 1) r := by
  rw [split_step (fun z => absurd z.2 (by decide)), show d + 1 + opn 41 - cls 41 = d by (show d + 1 + 0 - 1 = d); omega]
theorem split_93 {d : Int} {i : Nat} {r : List Nat} : splitP (d + 1) i (93 :: r) = splitP d (i + 1) r := by
  rw [split_step (fun z => absurd z.2 (by decide)), show d + 1 + opn 93 - cls 93 = d by (show d + 1 + 0 - 1 = d); omega]
theorem split_32 {d : Int} {i : Nat} {r : List Nat} (hd : 1 ≤ d) : splitP (d + 1) i (32 :: r) = splitP (d + 1) (i + 1) r := by
  have e : d + 1 + opn 32 - cls 32 = d + 1 := by (show d + 1 + 0 - 0 = d + 1); omega
  rw [split_step (fun z => by have := z.1; rw [e] at this; omega), e]
theorem split_tx : ∀ (f : Fm), f.ok → ∀ (d : Int) (i : Nat) (r : List Nat), 1 ≤ d → splitP d i (tx f ++ r) = splitP d (i + (tx f).length) r
  | .nm j, ok, d, i, r, hd => split_calm [97 + j] (by
      have ok : j < 6 := ok
      unfold calmS
      simp
      omega) i
  | .nu k, ok, d, i, r, hd => split_calm [48 + k.natAbs] (by
      have ok : 1 ≤ k ∧ k ≤ 9 := ok
      unfold calmS
      simp
      omega) i
  | .bi o p q, ok, d, i, r, hd => by
    have ok : p.ok ∧ q.ok := ok
    have e : tx (.bi o p q) ++ r = 40 :: (tx p ++ (32 :: ([o.c] ++ (32 :: (tx q ++ (41 :: r)))))) := by simp [tx]
    rw [e, split_40, split_tx p ok.1 _ _ _ (by omega), split_32 hd, split_calm [o.c] (by rw [List.all_cons, b4_calm]; rfl), split_32 hd, split_tx q ok.2 _ _ _ (by omega), split_41]
    congr 1
    simp only [tx, List.length_cons, List.length_append, List.length_nil]
    omega
  | .pw p k, ok, d, i, r, hd => by
    have ok : p.ok ∧ -3 ≤ k ∧ k ≤ 3 := ok
    have e : tx (.pw p k) ++ r = 91 :: (tx p ++ (93 :: ((94 :: nuT k) ++ r))) := by simp [tx]
    rw [e, split_91, split_tx p ok.1 _ _ _ (by omega), split_93, split_calm (94 :: nuT k) (by rw [List.all_cons, nuT_calm ok.2.1 ok.2.2]; rfl)]
    congr 1
    simp only [tx, List.length_cons, List.length_append, List.length_nil]
    omega
  | .rt p, ok, d, i, r, hd => by
    have ok : p.ok := ok
    have e : tx (.rt p) ++ r = [115, 113, 114, 116] ++ (91 :: (tx p ++ (93 :: r))) := by simp [tx]
    rw [e, split_calm [115, 113, 114, 116] rfl, split_91, split_tx p ok _ _ _ (by omega), split_93]
    congr 1
    simp only [tx, List.length_cons, List.length_append, List.length_nil]
    omega
  | .wv p, ok, d, i, r, hd => by
    have ok : p.ok := ok
    have e : tx (.wv p) ++ r = [119, 97, 118, 101] ++ (91 :: (tx p ++ (93 :: r))) := by simp [tx]
    rw [e, split_calm [119, 97, 118, 101] rfl, split_91, split_tx p ok _ _ _ (by omega), split_93]
    congr 1
    simp only [tx, List.length_cons, List.length_append, List.length_nil]
    omega
def calm1 (c : Nat) : Bool := !(c == 91) && !(c == 93)
theorem close_calm {d : Int} {r : List Nat} (hd : 1 ≤ d) : ∀ (l : List Nat), (l.all calm1) = true → ∀ i : Nat, closeP d i (l ++ r) = closeP d (i + l.length) r
  | [], _, i => rfl
  | c :: cs, h, i => by
    rw [List.all_cons, Bool.and_eq_true] at h
    have hc := h.1
    unfold calm1 at hc
    simp only [Bool.and_eq_true, Bool.not_eq_true', beq_eq_false_iff_ne] at hc
    have e1 : opn1 c = 0 := by unfold opn1; simp [hc.1]
    have e2 : cls1 c = 0 := by unfold cls1; simp [hc.2]
    rw [List.cons_append, closeP, e1, e2, if_neg (by omega), show d + 0 - 0 = d by omega, close_calm hd cs h.2, List.length_cons, show i + 1 + cs.length = i + (cs.length + 1) by omega]
theorem close_open {d : Int} {i : Nat} {r : List Nat} (hd : 0 ≤ d) : closeP d i (91 :: r) = closeP (d + 1) (i + 1) r := by
  rw [closeP, show d + opn1 91 - cls1 91 = d + 1 by (show d + 1 - 0 = d + 1); omega, if_neg (by omega)]
theorem close_shut {d : Int} {i : Nat} {r : List Nat} (hd : 1 ≤ d) : closeP (d + 1) i (93 :: r) = closeP d (i + 1) r := by
  rw [closeP, show d + 1 + opn1 93 - cls1 93 = d by (show d + 1 + 0 - 1 = d); omega, if_neg (by omega)]
theorem nuT_calm1 {k : Int} (h1 : -3 ≤ k) (h2 : k ≤ 3) : (nuT k).all calm1 = true := by
  have : k = -3 ∨ k = -2 ∨ k = -1 ∨ k = 0 ∨ k = 1 ∨ k = 2 ∨ k = 3 := by omega
  rcases this with rfl | rfl | rfl | rfl | rfl | rfl | rfl <;> rfl
theorem close_tx : ∀ (f : Fm), f.ok → ∀ (d : Int) (i : Nat) (r : List Nat), 1 ≤ d → closeP d i (tx f ++ r) = closeP d (i + (tx f).length) r
  | .nm j, ok, d, i, r, hd => close_calm hd [97 + j] (by
      have ok : j < 6 := ok
      unfold calm1
      simp
      omega) i
  | .nu k, ok, d, i, r, hd => close_calm hd [48 + k.natAbs] (by
      have ok : 1 ≤ k ∧ k ≤ 9 := ok
      unfold calm1
      simp
      omega) i
  | .bi o p q, ok, d, i, r, hd => by
    have ok : p.ok ∧ q.ok := ok
    have e : tx (.bi o p q) ++ r = [40] ++ (tx p ++ ([32, o.c, 32] ++ (tx q ++ ([41] ++ r)))) := by simp [tx]
    rw [e, close_calm hd [40] rfl, close_tx p ok.1 _ _ _ hd, close_calm hd [32, o.c, 32] (by cases o <;> rfl), close_tx q ok.2 _ _ _ hd, close_calm hd [41] rfl]
    congr 1
    simp only [tx, List.length_cons, List.length_append, List.length_nil]
    omega
  | .pw p k, ok, d, i, r, hd => by
    have ok : p.ok ∧ -3 ≤ k ∧ k ≤ 3 := ok
    have e : tx (.pw p k) ++ r = 91 :: (tx p ++ (93 :: ((94 :: nuT k) ++ r))) := by simp [tx]
    rw [e, close_open (by omega), close_tx p ok.1 _ _ _ (by omega), close_shut hd, close_calm hd (94 :: nuT k) (by rw [List.all_cons, nuT_calm1 ok.2.1 ok.2.2]; rfl)]
    congr 1
    simp only [tx, List.length_cons, List.length_append, List.length_nil]
    omega
  | .rt p, ok, d, i, r, hd => by
    have ok : p.ok := ok
    have e : tx (.rt p) ++ r = [115, 113, 114, 116] ++ (91 :: (tx p ++ (93 :: r))) := by simp [tx]
    rw [e, close_calm hd [115, 113, 114, 116] rfl, close_open (by omega), close_tx p ok _ _ _ (by omega), close_shut hd]
    congr 1
    simp only [tx, List.length_cons, List.length_append, List.length_nil]
    omega
  | .wv p, ok, d, i, r, hd => by
    have ok : p.ok := ok
    have e : tx (.wv p) ++ r = [119, 97, 118, 101] ++ (91 :: (tx p ++ (93 :: r))) := by simp [tx]
    rw [e, close_calm hd [119, 97, 118, 101] rfl, close_open (by omega), close_tx p ok _ _ _ (by omega), close_shut hd]
    congr 1
    simp only [tx, List.length_cons, List.length_append, List.length_nil]
    omega
end Mf
set_option Elab.async false
set_option linter.all false
set_option maxRecDepth 100000
set_option maxHeartbeats 1000000
namespace Mf
open PySem L2
inductive RT where
  | non | nm (c : Nat) | nu (i : Int) | bi (o : Option B4) (p q : RT) | pw (p : RT) (k : Int) | un (r : Bool) (p : RT)
def wN : Option B4 → Str
  | some o => o.w
  | none => "none"
def uN : Bool → Str
  | true => "root"
  | false => "wave"
def RT.D : RT → D
  | .non => .non
  | .nm c => .tup [.str "name", .str (mkS [c])]
  | .nu i => .tup [.str "number", .int i]
  | .bi o p q => .tup [.str (wN o), p.D, q.D]
  | .pw p k => .tup [.str "power", p.D, .int k]
  | .un r p => .tup [.str (uN r), p.D]
def wd (l : List Nat) : Option B4 := if [43] = l then some .plus else if [45] = l then some .minus else if [42] = l then some .times else if [47] = l then some .over else none
def nb (l : List Nat) : Int := if [45, 51] = l then -3 else if [45, 50] = l then -2 else if [45, 49] = l then -1 else if [48] = l then 0 else if [49] = l then 1 else if [50] = l then 2 else if [51] = l then 3 else 9
def nms : List Nat := [97, 98, 99, 100, 101, 102]
def dgt (c : Nat) : Int := Txt.find "0123456789" (mkS [c])
def rd : Nat → List Nat → RT
  | 0, _ => .non
  | n + 1, l => match l with
    | [] => .non
    | [c] => if decide (c ∈ nms) then .nm c else .nu (dgt c)
    | c :: _ :: _ => if decide (c = 40) then .bi (wd (sl l (some (splitP 0 0 l + 1)) (some (splitP 0 0 l + 2)))) (rd n (sl l (some 1) (some (splitP 0 0 l)))) (rd n (sl l (some (splitP 0 0 l + 3)) (some (-1))))
      else if decide (c = 91) then .pw (rd n (sl l (some 1) (some (closeP 0 0 l)))) (nb (sl l (some (closeP 0 0 l + 2)) none))
      else .un (decide (sl l none (some 4) = [115, 113, 114, 116])) (rd n (sl l (some 5) (some (-1))))
def isF : Nat → RT → Bool
  | 0, _ => false
  | _ + 1, .non => false
  | _ + 1, .nm c => decide (c ∈ nms)
  | _ + 1, .nu i => decide (1 ≤ i) && decide (i ≤ 9)
  | n + 1, .bi o p q => isF n p && (o.isSome && isF n q)
  | n + 1, .pw p k => isF n p && (decide (-3 ≤ k) && decide (k ≤ 3))
  | n + 1, .un _ p => isF n p
def ofF : Fm → RT
  | .nm i => .nm (97 + i)
  | .nu k => .nu k
  | .bi o p q => .bi (some o) (ofF p) (ofF q)
  | .pw p k => .pw (ofF p) k
  | .rt p => .un true (ofF p)
  | .wv p => .un false (ofF p)
theorem ofF_D : ∀ f : Fm, (ofF f).D = f.D
  | .nm i => rfl
  | .nu k => rfl
  | .bi o p q => by simp only [ofF, RT.D, Fm.D, ofF_D p, ofF_D q, wN]
  | .pw p k => by simp only [ofF, RT.D, Fm.D, ofF_D p]
  | .rt p => by simp only [ofF, RT.D, Fm.D, ofF_D p, uN]
  | .wv p => by simp only [ofF, RT.D, Fm.D, ofF_D p, uN]
theorem mem_nms {c : Nat} : c ∈ nms ↔ 97 ≤ c ∧ c ≤ 102 := by
  unfold nms
  simp only [List.mem_cons, List.not_mem_nil, or_false]
  omega
theorem isF_of : ∀ (f : Fm) (d : Nat), f.ok → f.dep ≤ d → isF d (ofF f) = true
  | f, 0, _, h => by have := f.dep_pos; omega
  | .nm i, d + 1, ok, h => by
    have ok : i < 6 := ok
    show decide (97 + i ∈ nms) = true
    exact decide_eq_true (mem_nms.mpr (by omega))
  | .nu k, d + 1, ok, h => by
    have ok : 1 ≤ k ∧ k ≤ 9 := ok
    show (decide (1 ≤ k) && decide (k ≤ 9)) = true
    simp [ok]
  | .bi o p q, d + 1, ok, h => by
    have ok : p.ok ∧ q.ok := ok
    have h : max p.dep q.dep + 1 ≤ d + 1 := h
    show (isF d (ofF p) && (true && isF d (ofF q))) = true
    rw [isF_of p d ok.1 (by omega), isF_of q d ok.2 (by omega)]
    rfl
  | .pw p k, d + 1, ok, h => by
    have ok : p.ok ∧ -3 ≤ k ∧ k ≤ 3 := ok
    have h : p.dep + 1 ≤ d + 1 := h
    show (isF d (ofF p) && (decide (-3 ≤ k) && decide (k ≤ 3))) = true
    rw [isF_of p d ok.1 (by omega)]
    simp [ok]
  | .rt p, d + 1, ok, h => isF_of p d ok (by have h : p.dep + 1 ≤ d + 1 := h; omega)
  | .wv p, d + 1, ok, h => isF_of p d ok (by have h : p.dep + 1 ≤ d + 1 := h; omega)
theorem isF_fm : ∀ (d : Nat) (t : RT), isF d t = true → ∃ f : Fm, f.ok ∧ f.dep ≤ d ∧ t = ofF f
  | 0, t, h => by cases h
  | d + 1, .non, h => by cases h
  | d + 1, .nm c, h => by
    have h := mem_nms.mp (of_decide_eq_true h)
    exact ⟨.nm (c - 97), show c - 97 < 6 by omega, Nat.succ_le_succ (Nat.zero_le _), by show RT.nm c = RT.nm (97 + (c - 97)); rw [show 97 + (c - 97) = c by omega]⟩
  | d + 1, .nu i, h => by
    have h : (decide (1 ≤ i) && decide (i ≤ 9)) = true := h
    simp only [Bool.and_eq_true, decide_eq_true_eq] at h
    exact ⟨.nu i, h, Nat.succ_le_succ (Nat.zero_le _), rfl⟩
  | d + 1, .bi o p q, h => by
    have h : (isF d p && (o.isSome && isF d q)) = true := h
    simp only [Bool.and_eq_true] at h
    obtain ⟨f, f1, f2, rfl⟩ := isF_fm d p h.1
    obtain ⟨g, g1, g2, rfl⟩ := isF_fm d q h.2.2
    cases o with
    | none => cases h.2.1
    | some o => exact ⟨.bi o f g, ⟨f1, g1⟩, show max f.dep g.dep + 1 ≤ d + 1 by omega, rfl⟩
  | d + 1, .pw p k, h => by
    have h : (isF d p && (decide (-3 ≤ k) && decide (k ≤ 3))) = true := h
    simp only [Bool.and_eq_true, decide_eq_true_eq] at h
    obtain ⟨f, f1, f2, rfl⟩ := isF_fm d p h.1
    exact ⟨.pw f k, ⟨f1, h.2⟩, Nat.succ_le_succ f2, rfl⟩
  | d + 1, .un r p, h => by
    obtain ⟨f, f1, f2, rfl⟩ := isF_fm d p h
    cases r with
    | true => exact ⟨.rt f, f1, Nat.succ_le_succ f2, rfl⟩
    | false => exact ⟨.wv f, f1, Nat.succ_le_succ f2, rfl⟩
theorem rd_two {n : Nat} {l : List Nat} {c : Nat} {r : List Nat} (hl : l = c :: r) (h2 : 2 ≤ l.length) : rd (n + 1) l = if decide (c = 40) then .bi (wd (sl l (some (splitP 0 0 l + 1)) (some (splitP 0 0 l + 2)))) (rd n (sl l (some 1) (some (splitP 0 0 l)))) (rd n (sl l (some (splitP 0 0 l + 3)) (some (-1))))
      else if decide (c = 91) then .pw (rd n (sl l (some 1) (some (closeP 0 0 l)))) (nb (sl l (some (closeP 0 0 l + 2)) none))
      else .un (decide (sl l none (some 4) = [115, 113, 114, 116])) (rd n (sl l (some 5) (some (-1)))) := by
  cases r with
  | nil => subst hl; simp at h2
  | cons c2 cs => subst hl; rfl
theorem wd_c (o : B4) : wd [o.c] = some o := by cases o <;> rfl
theorem nb_nuT {k : Int} (h1 : -3 ≤ k) (h2 : k ≤ 3) : nb (nuT k) = k := by
  have : k = -3 ∨ k = -2 ∨ k = -1 ∨ k = 0 ∨ k = 1 ∨ k = 2 ∨ k = 3 := by omega
  rcases this with rfl | rfl | rfl | rfl | rfl | rfl | rfl <;> rfl
theorem dgt_of {k : Int} (h1 : 1 ≤ k) (h2 : k ≤ 9) : dgt (48 + k.natAbs) = k := by
  have : k = 1 ∨ k = 2 ∨ k = 3 ∨ k = 4 ∨ k = 5 ∨ k = 6 ∨ k = 7 ∨ k = 8 ∨ k = 9 := by omega
  rcases this with rfl | rfl | rfl | rfl | rfl | rfl | rfl | rfl | rfl <;> decide +kernel
theorem rd_tx : ∀ (f : Fm) (n : Nat), f.ok → f.dep ≤ n → rd n (tx f) = ofF f
  | f, 0, _, h => by have := f.dep_pos; omega
  | .nm i, n + 1, ok, h => by
    have ok : i < 6 := ok
    show (if decide (97 + i ∈ nms) then RT.nm (97 + i) else .nu (dgt (97 + i))) = .nm (97 + i)
    rw [decide_eq_true (mem_nms.mpr (by omega))]
    rfl
  | .nu k, n + 1, ok, h => by
    have ok : 1 ≤ k ∧ k ≤ 9 := ok
    show (if decide (48 + k.natAbs ∈ nms) then RT.nm (48 + k.natAbs) else .nu (dgt (48 + k.natAbs))) = .nu k
    rw [decide_eq_false (fun z => by have := mem_nms.mp z; omega), dgt_of ok.1 ok.2]
    rfl
  | .bi o p q, n + 1, ok, h => by
    have ok : p.ok ∧ q.ok := ok
    have h : max p.dep q.dep + 1 ≤ n + 1 := h
    have e : tx (.bi o p q) = 40 :: (tx p ++ (32 :: o.c :: 32 :: (tx q ++ [41]))) := rfl
    have hs : splitP 0 0 (tx (.bi o p q)) = ((1 + (tx p).length : Nat) : Int) := by
      rw [e, split_40, split_tx p ok.1 _ _ _ (by omega), splitP, if_pos (show (0 : Int) + 1 + opn 32 - cls 32 = 1 ∧ 32 = 32 from ⟨rfl, rfl⟩), Nat.zero_add]
    rw [rd_two e (by rw [e]; simp; omega), if_pos (show decide (40 = 40) = true from rfl), hs]
    have s1 : sl (tx (.bi o p q)) (some 1) (some ((1 + (tx p).length : Nat) : Int)) = tx p := sl_mid [40] (tx p) (32 :: o.c :: 32 :: (tx q ++ [41]))
    have s2 : sl (tx (.bi o p q)) (some (((1 + (tx p).length : Nat) : Int) + 1)) (some (((1 + (tx p).length : Nat) : Int) + 2)) = [o.c] := by
      have w := sl_mid (40 :: (tx p ++ [32])) [o.c] (32 :: (tx q ++ [41]))
      have e2 : (40 :: (tx p ++ [32])) ++ ([o.c] ++ (32 :: (tx q ++ [41]))) = tx (.bi o p q) := by simp [tx]
      rw [e2] at w
      have l1 : (40 :: (tx p ++ [32])).length = 1 + (tx p).length + 1 := by simp; omega
      rw [l1] at w
      exact w
    have s3 : sl (tx (.bi o p q)) (some (((1 + (tx p).length : Nat) : Int) + 3)) (some (-1)) = tx q := by
      have w := sl_but (40 :: (tx p ++ [32, o.c, 32])) (tx q) 41
      have e2 : (40 :: (tx p ++ [32, o.c, 32])) ++ (tx q ++ [41]) = tx (.bi o p q) := by simp [tx]
      rw [e2] at w
      have l1 : (40 :: (tx p ++ [32, o.c, 32])).length = 1 + (tx p).length + 3 := by simp; omega
      rw [l1] at w
      exact w
    rw [s1, s2, s3, wd_c, rd_tx p n ok.1 (by omega), rd_tx q n ok.2 (by omega)]
    rfl
  | .pw p k, n + 1, ok, h => by
    have ok : p.ok ∧ -3 ≤ k ∧ k ≤ 3 := ok
    have h : p.dep + 1 ≤ n + 1 := h
    have e : tx (.pw p k) = 91 :: (tx p ++ (93 :: 94 :: nuT k)) := rfl
    have hs : closeP 0 0 (tx (.pw p k)) = ((1 + (tx p).length : Nat) : Int) := by
      rw [e, close_open (by omega), close_tx p ok.1 _ _ _ (by omega), closeP, if_pos (show (0 : Int) + 1 + opn1 93 - cls1 93 = 0 from rfl), Nat.zero_add]
    rw [rd_two e (by rw [e]; simp; omega), if_neg (by decide), if_pos (show decide (91 = 91) = true from rfl), hs]
    have s1 : sl (tx (.pw p k)) (some 1) (some ((1 + (tx p).length : Nat) : Int)) = tx p := sl_mid [91] (tx p) (93 :: 94 :: nuT k)
    have s2 : sl (tx (.pw p k)) (some (((1 + (tx p).length : Nat) : Int) + 2)) none = nuT k := by
      have w := sl_from (91 :: (tx p ++ [93, 94])) (nuT k)
      have e2 : (91 :: (tx p ++ [93, 94])) ++ nuT k = tx (.pw p k) := by simp [tx]
      rw [e2] at w
      have l1 : (91 :: (tx p ++ [93, 94])).length = 1 + (tx p).length + 2 := by simp; omega
      rw [l1] at w
      exact w
    rw [s1, s2, nb_nuT ok.2.1 ok.2.2, rd_tx p n ok.1 (by omega)]
    rfl
  | .rt p, n + 1, ok, h => by
    have ok : p.ok := ok
    have h : p.dep + 1 ≤ n + 1 := h
    have e : tx (.rt p) = 115 :: ([113, 114, 116, 91] ++ (tx p ++ [93])) := rfl
    rw [rd_two e (by rw [e]; simp), if_neg (by decide), if_neg (by decide)]
    have s1 : sl (tx (.rt p)) (some 5) (some (-1)) = tx p := sl_but [115, 113, 114, 116, 91] (tx p) 93
    have s2 : sl (tx (.rt p)) none (some 4) = [115, 113, 114, 116] := sl_to [115, 113, 114, 116] (91 :: (tx p ++ [93]))
    rw [s1, s2, rd_tx p n ok (by omega)]
    rfl
  | .wv p, n + 1, ok, h => by
    have ok : p.ok := ok
    have h : p.dep + 1 ≤ n + 1 := h
    have e : tx (.wv p) = 119 :: ([97, 118, 101, 91] ++ (tx p ++ [93])) := rfl
    rw [rd_two e (by rw [e]; simp), if_neg (by decide), if_neg (by decide)]
    have s1 : sl (tx (.wv p)) (some 5) (some (-1)) = tx p := sl_but [119, 97, 118, 101, 91] (tx p) 93
    have s2 : sl (tx (.wv p)) none (some 4) = [119, 97, 118, 101] := sl_to [119, 97, 118, 101] (91 :: (tx p ++ [93]))
    rw [s1, s2, rd_tx p n ok (by omega)]
    rfl
def txR : RT → List Nat
  | .non => []
  | .nm c => [c]
  | .nu k => [48 + k.natAbs]
  | .bi o p q => 40 :: (txR p ++ (32 :: (o.getD .plus).c :: 32 :: (txR q ++ [41])))
  | .pw p k => 91 :: (txR p ++ (93 :: 94 :: nuT k))
  | .un true p => [115, 113, 114, 116, 91] ++ (txR p ++ [93])
  | .un false p => [119, 97, 118, 101, 91] ++ (txR p ++ [93])
theorem txR_of : ∀ f : Fm, txR (ofF f) = tx f
  | .nm i => rfl
  | .nu k => rfl
  | .bi o p q => by simp only [ofF, txR, tx, txR_of p, txR_of q, Option.getD_some]
  | .pw p k => by simp only [ofF, txR, tx, txR_of p]
  | .rt p => by simp only [ofF, txR, tx, txR_of p]
  | .wv p => by simp only [ofF, txR, tx, txR_of p]
def fromB (l : List Nat) : Bool := decide (l.length ≤ 200) && (isF 4 (rd 4 l) && decide (txR (rd 4 l) = l))
theorem fromB_tx {f : Fm} (ok : f.ok) (h : f.dep ≤ 4) : fromB (tx f) = true := by
  unfold fromB
  rw [rd_tx f 4 ok h, isF_of f 4 ok h, txR_of, decide_eq_true (show (tx f).length ≤ 200 by have := tx_58 h; omega), decide_eq_true rfl]
  rfl
theorem fromB_fm {l : List Nat} (h : fromB l = true) : ∃ f : Fm, f.ok ∧ f.dep ≤ 4 ∧ rd 4 l = ofF f ∧ tx f = l := by
  unfold fromB at h
  simp only [Bool.and_eq_true, decide_eq_true_eq] at h
  obtain ⟨f, f1, f2, f3⟩ := isF_fm 4 _ h.2.1
  exact ⟨f, f1, f2, f3, by rw [← txR_of, ← f3]; exact h.2.2⟩
end Mf
set_option Elab.async false
set_option linter.all false
set_option maxRecDepth 100000
set_option maxHeartbeats 4000000
namespace Mf
open PySem L2
abbrev g__law_draw := g_draw
def d_NAMES : D := .str "abcdef"
def t_SIGNS : List (Str × D) := [("plus", .str "+"), ("minus", .str "-"), ("times", .str "*"), ("over", .str "/")]
def d_SIGNS : D := .dct t_SIGNS
def c_is_between : CSs (List Int) :=
  (.cons (.ret (.and (.isi (.var 0) .int) (.and (.not (.isi (.var 0) .bool)) (.one (.chn .le .le (.var 1) (.var 0) (.var 2))))))
  .nil)
def g_is_between : Sem (List Int) := fnR 3 (c_is_between)
def c_is_name : CSs (List Int) :=
  (.cons (.ret (.and (.isi (.var 0) .str) (.and (.cmp .eq (.b1 .len (.var 0)) (.con (.int 1))) (.one (.cmp .isin (.var 0) (.glb "NAMES" d_NAMES))))))
  .nil)
def g_is_name : Sem (List Int) := fnR 1 (c_is_name)
def c__law_name : CSs (List Int) :=
  (.cons (.ife (.not (.isx (.var 0) none)) (.cons (.ret (.neg (.con (.int 1))))
   .nil) .nil)
  (.cons (.asg false 1 (.lst (.cons (.isx (.var 0) (some "InvalidFormula")) (.cons (.isx (.var 0) (some "InvalidStatement")) .nil))))
  (.cons (.asg false 1 (.bin .add (.var 1) (.lst (.cons (.isx (.var 0) (some "InvalidStatements")) (.cons (.isx (.var 0) (some "InvalidTable")) .nil)))))
  (.cons (.asg false 1 (.bin .add (.var 1) (.lst (.cons (.isx (.var 0) (some "InvalidName")) (.cons (.isx (.var 0) (some "InvalidMeasure")) .nil)))))
  (.cons (.asg false 1 (.bin .add (.var 1) (.lst (.cons (.isx (.var 0) (some "InvalidFactors")) (.cons (.isx (.var 0) (some "InvalidNumbers")) .nil)))))
  (.cons (.asg false 1 (.bin .add (.var 1) (.lst (.cons (.isx (.var 0) (some "InvalidText")) (.cons (.isx (.var 0) (some "Unknown")) .nil)))))
  (.cons (.asg false 1 (.bin .add (.var 1) (.lst (.cons (.isx (.var 0) (some "Clash")) (.cons (.isx (.var 0) (some "NoCompletion")) .nil)))))
  (.cons (.asg false 1 (.bin .add (.var 1) (.lst (.cons (.isx (.var 0) (some "NotWhole")) (.cons (.isx (.var 0) (some "NoValue")) .nil)))))
  (.cons (.asg false 1 (.bin .add (.var 1) (.lst (.cons (.isx (.var 0) (some "TooMany")) (.cons (.isx (.var 0) (some "AlreadyKnown")) .nil)))))
  (.cons (.asg false 1 (.bin .add (.var 1) (.lst (.cons (.isx (.var 0) (some "NothingToUndo")) .nil))))
  (.cons (.ret (.ife (.cmp .eq (.m1 .lcount (.var 1) (.con (.bl true))) (.con (.int 1))) (.m1 .lindex (.var 1) (.con (.bl true))) (.neg (.con (.int 1)))))
  .nil)))))))))))
def g__law_name : Sem (List Int) := fnR 2 (c__law_name)
def c__law_raises : CSs (List Int) :=
  (.cons (.asg false 1 (.lst (.cons (.con (.str "formula")) (.cons (.con (.str "statement")) (.cons (.con (.str "statements")) (.cons (.con (.str "table")) (.cons (.con (.str "name")) (.cons (.con (.str "measure")) (.cons (.con (.str "factors")) .nil)))))))))
  (.cons (.asg false 1 (.bin .add (.var 1) (.lst (.cons (.con (.str "numbers")) (.cons (.con (.str "text")) (.cons (.con (.str "unknown")) (.cons (.con (.str "clash")) (.cons (.con (.str "none")) (.cons (.con (.str "whole")) .nil)))))))))
  (.cons (.asg false 1 (.bin .add (.var 1) (.lst (.cons (.con (.str "value")) (.cons (.con (.str "many")) (.cons (.con (.str "known")) (.cons (.con (.str "undo")) .nil)))))))
  (.cons (.ret (.tup (.cons (.con (.str "raised")) (.cons (.m1 .lindex (.var 1) (.var 0)) .nil))))
  .nil))))
def g__law_raises : Sem (List Int) := fnR 2 (c__law_raises)
def c_is_at_most (self : Sem (List Int)) : CSs (List Int) :=
  (.cons (.ife (.or (.cmp .lt (.var 1) (.con (.int 1))) (.or (.not (.isi (.var 0) .tuple)) (.or (.not (.chn .le .le (.con (.int 2)) (.b1 .len (.var 0)) (.con (.int 3)))) (.one (.not (.isi (.ix (.var 0) (.con (.int 0))) .str)))))) (.cons (.ret (.con (.bl false)))
   .nil) .nil)
  (.cons (.asg false 2 (.ix (.var 0) (.con (.int 0))))
  (.cons (.ife (.cmp .eq (.var 2) (.con (.str "name"))) (.cons (.ret (.and (.cmp .eq (.b1 .len (.var 0)) (.con (.int 2))) (.one (.call "is_name" 1 g_is_name (.cons (.ix (.var 0) (.con (.int 1))) .nil)))))
   .nil) .nil)
  (.cons (.ife (.cmp .eq (.var 2) (.con (.str "number"))) (.cons (.ret (.and (.cmp .eq (.b1 .len (.var 0)) (.con (.int 2))) (.one (.call "is_between" 3 g_is_between (.cons (.ix (.var 0) (.con (.int 1))) (.cons (.con (.int 1)) (.cons (.con (.int 9)) .nil)))))))
   .nil) .nil)
  (.cons (.ife (.cmp .isin (.var 2) (.tup (.cons (.con (.str "root")) (.cons (.con (.str "wave")) .nil)))) (.cons (.ret (.and (.cmp .eq (.b1 .len (.var 0)) (.con (.int 2))) (.one (.call "is_at_most" 2 self (.cons (.ix (.var 0) (.con (.int 1))) (.cons (.bin .sub (.var 1) (.con (.int 1))) .nil))))))
   .nil) .nil)
  (.cons (.ife (.or (.cmp .ne (.b1 .len (.var 0)) (.con (.int 3))) (.one (.not (.call "is_at_most" 2 self (.cons (.ix (.var 0) (.con (.int 1))) (.cons (.bin .sub (.var 1) (.con (.int 1))) .nil)))))) (.cons (.ret (.con (.bl false)))
   .nil) .nil)
  (.cons (.ife (.cmp .eq (.var 2) (.con (.str "power"))) (.cons (.ret (.call "is_between" 3 g_is_between (.cons (.ix (.var 0) (.con (.int 2))) (.cons (.neg (.con (.int 3))) (.cons (.con (.int 3)) .nil)))))
   .nil) .nil)
  (.cons (.ret (.and (.cmp .isin (.var 2) (.tup (.cons (.con (.str "plus")) (.cons (.con (.str "minus")) (.cons (.con (.str "times")) (.cons (.con (.str "over")) .nil)))))) (.one (.call "is_at_most" 2 self (.cons (.ix (.var 0) (.con (.int 2))) (.cons (.bin .sub (.var 1) (.con (.int 1))) .nil))))))
  .nil))))))))
def g_is_at_most : Nat → Sem (List Int)
  | 0 => fun _ _ => .er
  | k + 1 => fnR 3 (c_is_at_most (g_is_at_most k))
def c_is_formula : CSs (List Int) :=
  (.cons (.ret (.call "is_at_most" 2 (g_is_at_most 6) (.cons (.var 0) (.cons (.con (.int 4)) .nil))))
  .nil)
def g_is_formula : Sem (List Int) := fnR 1 (c_is_formula)
def c_check_formula : CSs (List Int) :=
  (.cons (.ife (.not (.call "is_formula" 1 g_is_formula (.cons (.var 0) .nil))) (.cons .never
   .nil) .nil)
  .nil)
def g_check_formula : Sem (List Int) := fnR 1 (c_check_formula)
def c__law_pick (p : Addr) : CSs (List Int) :=
  (.cons (.ret (.ix (.var 2) (.call "_law_draw" 3 (g__law_draw p) (.cons (.var 0) (.cons (.var 1) (.cons (.b1 .len (.var 2)) .nil))))))
  .nil)
def g__law_pick (p : Addr) : Sem (List Int) := fnR 3 (c__law_pick p)
def c__law_formula (p : Addr) (self : Sem (List Int)) : CSs (List Int) :=
  (.cons (.asg false 3 (.call "_law_draw" 3 (g__law_draw p) (.cons (.var 0) (.cons (.var 1) (.cons (.con (.int 10)) .nil)))))
  (.cons (.ife (.or (.cmp .eq (.var 2) (.con (.int 1))) (.one (.cmp .lt (.var 3) (.con (.int 2))))) (.cons (.ife (.cmp .eq (.call "_law_draw" 3 (g__law_draw p) (.cons (.var 0) (.cons (.var 1) (.cons (.con (.int 6)) .nil)))) (.con (.int 0))) (.cons (.ret (.tup (.cons (.con (.str "number")) (.cons (.bin .add (.con (.int 1)) (.call "_law_draw" 3 (g__law_draw p) (.cons (.var 0) (.cons (.var 1) (.cons (.con (.int 9)) .nil))))) .nil))))
    .nil) .nil)
   (.cons (.ret (.tup (.cons (.con (.str "name")) (.cons (.ix (.con (.str "abcdef")) (.call "_law_draw" 3 (g__law_draw p) (.cons (.var 0) (.cons (.var 1) (.cons (.call "_law_pick" 3 (g__law_pick p) (.cons (.var 0) (.cons (.var 1) (.cons (.lst (.cons (.con (.int 3)) (.cons (.con (.int 4)) (.cons (.con (.int 6)) .nil)))) .nil)))) .nil))))) .nil))))
   .nil)) .nil)
  (.cons (.asg false 4 (.call "_law_formula" 3 self (.cons (.var 0) (.cons (.var 1) (.cons (.bin .sub (.var 2) (.con (.int 1))) .nil)))))
  (.cons (.ife (.cmp .eq (.var 3) (.con (.int 2))) (.cons (.ret (.tup (.cons (.con (.str "power")) (.cons (.var 4) (.cons (.bin .sub (.call "_law_draw" 3 (g__law_draw p) (.cons (.var 0) (.cons (.var 1) (.cons (.con (.int 7)) .nil)))) (.con (.int 3))) .nil)))))
   .nil) .nil)
  (.cons (.ife (.cmp .eq (.var 3) (.con (.int 3))) (.cons (.ret (.tup (.cons (.call "_law_pick" 3 (g__law_pick p) (.cons (.var 0) (.cons (.var 1) (.cons (.lst (.cons (.con (.str "root")) (.cons (.con (.str "root")) (.cons (.con (.str "wave")) .nil)))) .nil)))) (.cons (.var 4) .nil))))
   .nil) .nil)
  (.cons (.asg false 5 (.ix (.tup (.cons (.con (.str "plus")) (.cons (.con (.str "minus")) (.cons (.con (.str "times")) (.cons (.con (.str "over")) (.cons (.con (.str "times")) (.cons (.con (.str "over")) .nil))))))) (.bin .sub (.var 3) (.con (.int 4)))))
  (.cons (.ret (.tup (.cons (.var 5) (.cons (.var 4) (.cons (.call "_law_formula" 3 self (.cons (.var 0) (.cons (.var 1) (.cons (.bin .sub (.var 2) (.con (.int 1))) .nil)))) .nil)))))
  .nil)))))))
def g__law_formula (p : Addr) : Nat → Sem (List Int)
  | 0 => fun _ _ => .er
  | k + 1 => fnR 6 (c__law_formula p (g__law_formula p k))
def t_WORDS : List (Str × D) := [("+", .str "plus"), ("-", .str "minus"), ("*", .str "times"), ("/", .str "over")]
def d_WORDS : D := .dct t_WORDS
def t_NUMBERS : List (Str × D) := [("-3", .int (-3)), ("-2", .int (-2)), ("-1", .int (-1)), ("0", .int 0), ("1", .int 1), ("2", .int 2), ("3", .int 3)]
def d_NUMBERS : D := .dct t_NUMBERS
def c__law_line (self : Sem (List Int)) : CSs (List Int) :=
  (.cons (.asg false 1 (.ix (.var 0) (.con (.int 0))))
  (.cons (.ife (.cmp .isin (.var 1) (.tup (.cons (.con (.str "name")) (.cons (.con (.str "number")) .nil)))) (.cons (.ret (.stx false (.ix (.var 0) (.con (.int 1)))))
   .nil) .nil)
  (.cons (.ife (.cmp .eq (.var 1) (.con (.str "power"))) (.cons (.ret (.bin .add (.bin .add (.bin .add (.con (.str "[")) (.call "_law_line" 1 self (.cons (.ix (.var 0) (.con (.int 1))) .nil))) (.con (.str "]^"))) (.stx false (.ix (.var 0) (.con (.int 2))))))
   .nil) .nil)
  (.cons (.ife (.cmp .isin (.var 1) (.tup (.cons (.con (.str "root")) (.cons (.con (.str "wave")) .nil)))) (.cons (.ret (.bin .add (.bin .add (.dlt [("root", "sqrt["), ("wave", "wave[")] (.var 1)) (.call "_law_line" 1 self (.cons (.ix (.var 0) (.con (.int 1))) .nil))) (.con (.str "]"))))
   .nil) .nil)
  (.cons (.asg false 2 (.dlt [("plus", " + "), ("minus", " - "), ("times", " * "), ("over", " / ")] (.var 1)))
  (.cons (.ret (.bin .add (.bin .add (.bin .add (.bin .add (.con (.str "(")) (.call "_law_line" 1 self (.cons (.ix (.var 0) (.con (.int 1))) .nil))) (.var 2)) (.call "_law_line" 1 self (.cons (.ix (.var 0) (.con (.int 2))) .nil))) (.con (.str ")"))))
  .nil))))))
def g__law_line : Nat → Sem (List Int)
  | 0 => fun _ _ => .er
  | k + 1 => fnR 3 (c__law_line (g__law_line k))
def b_split_place_0 : CSs (List Int) :=
  (.cons (.asg false 1 (.bin .sub (.bin .add (.var 1) (.b1 .int (.cmp .isin (.var 3) (.con (.str "(["))))) (.b1 .int (.cmp .isin (.var 3) (.con (.str ")]"))))))
  (.cons (.ife (.and (.cmp .eq (.var 1) (.con (.int 1))) (.one (.cmp .eq (.var 3) (.con (.str " "))))) (.cons (.ret (.var 2))
   .nil) .nil)
  .nil))
def c_split_place : CSs (List Int) :=
  (.cons (.asg false 1 (.con (.int 0)))
  (.cons (.forr (.cons (.nm 2) (.cons (.nm 3) .nil)) (.enm (.var 0)) (b_split_place_0))
  (.cons (.ret (.neg (.con (.int 1))))
  .nil)))
def g_split_place : Sem (List Int) := fnR 4 (c_split_place)
def b_close_place_0 : CSs (List Int) :=
  (.cons (.asg false 1 (.bin .sub (.bin .add (.var 1) (.b1 .int (.cmp .eq (.var 3) (.con (.str "["))))) (.b1 .int (.cmp .eq (.var 3) (.con (.str "]"))))))
  (.cons (.ife (.cmp .eq (.var 1) (.con (.int 0))) (.cons (.ret (.var 2))
   .nil) .nil)
  .nil))
def c_close_place : CSs (List Int) :=
  (.cons (.asg false 1 (.con (.int 0)))
  (.cons (.forr (.cons (.nm 2) (.cons (.nm 3) .nil)) (.enm (.var 0)) (b_close_place_0))
  (.cons (.ret (.neg (.con (.int 1))))
  .nil)))
def g_close_place : Sem (List Int) := fnR 4 (c_close_place)
def c_read (self : Sem (List Int)) : CSs (List Int) :=
  (.cons (.ife (.or (.cmp .eq (.var 1) (.con (.int 0))) (.one (.cmp .eq (.var 0) (.con (.str ""))))) (.cons (.ret (.con (.non)))
   .nil) .nil)
  (.cons (.ife (.cmp .eq (.b1 .len (.var 0)) (.con (.int 1))) (.cons (.ret (.ife (.cmp .isin (.var 0) (.glb "NAMES" d_NAMES)) (.tup (.cons (.con (.str "name")) (.cons (.var 0) .nil))) (.tup (.cons (.con (.str "number")) (.cons (.m1 .sfind (.con (.str "0123456789")) (.var 0)) .nil)))))
   .nil) .nil)
  (.cons (.ife (.cmp .eq (.ix (.var 0) (.con (.int 0))) (.con (.str "("))) (.cons (.asg false 2 (.call "split_place" 1 g_split_place (.cons (.var 0) .nil)))
   (.cons (.asg false 3 (.dgt "WORDS" t_WORDS (.slB (.var 0) (.bin .add (.var 2) (.con (.int 1))) (.bin .add (.var 2) (.con (.int 2)))) (.con (.str "none"))))
   (.cons (.ret (.tup (.cons (.var 3) (.cons (.call "read" 2 self (.cons (.slB (.var 0) (.con (.int 1)) (.var 2)) (.cons (.bin .sub (.var 1) (.con (.int 1))) .nil))) (.cons (.call "read" 2 self (.cons (.slB (.var 0) (.bin .add (.var 2) (.con (.int 3))) (.neg (.con (.int 1)))) (.cons (.bin .sub (.var 1) (.con (.int 1))) .nil))) .nil)))))
   .nil))) .nil)
  (.cons (.ife (.cmp .eq (.ix (.var 0) (.con (.int 0))) (.con (.str "["))) (.cons (.asg false 2 (.call "close_place" 1 g_close_place (.cons (.var 0) .nil)))
   (.cons (.ret (.tup (.cons (.con (.str "power")) (.cons (.call "read" 2 self (.cons (.slB (.var 0) (.con (.int 1)) (.var 2)) (.cons (.bin .sub (.var 1) (.con (.int 1))) .nil))) (.cons (.dgt "NUMBERS" t_NUMBERS (.slL (.var 0) (.bin .add (.var 2) (.con (.int 2)))) (.con (.int 9))) .nil)))))
   .nil)) .nil)
  (.cons (.ret (.tup (.cons (.ife (.cmp .eq (.slH (.var 0) (.con (.int 4))) (.con (.str "sqrt"))) (.con (.str "root")) (.con (.str "wave"))) (.cons (.call "read" 2 self (.cons (.slB (.var 0) (.con (.int 5)) (.neg (.con (.int 1)))) (.cons (.bin .sub (.var 1) (.con (.int 1))) .nil))) .nil))))
  .nil)))))
def g_read : Nat → Sem (List Int)
  | 0 => fun _ _ => .er
  | k + 1 => fnR 4 (c_read (g_read k))
def c_text_of (self : Sem (List Int)) : CSs (List Int) :=
  (.cons (.asg false 1 (.ix (.var 0) (.con (.int 0))))
  (.cons (.ife (.cmp .isin (.var 1) (.tup (.cons (.con (.str "name")) (.cons (.con (.str "number")) .nil)))) (.cons (.ret (.stx false (.ix (.var 0) (.con (.int 1)))))
   .nil) .nil)
  (.cons (.asg false 2 (.call "text_of" 1 self (.cons (.ix (.var 0) (.con (.int 1))) .nil)))
  (.cons (.ife (.cmp .eq (.var 1) (.con (.str "power"))) (.cons (.ret (.fst (.cons (.con (.str "[")) (.cons (.stx true (.var 2)) (.cons (.con (.str "]^")) (.cons (.stx true (.ix (.var 0) (.con (.int 2)))) .nil))))))
   .nil) .nil)
  (.cons (.ife (.cmp .isin (.var 1) (.tup (.cons (.con (.str "root")) (.cons (.con (.str "wave")) .nil)))) (.cons (.ret (.bin .add (.ife (.cmp .eq (.var 1) (.con (.str "root"))) (.con (.str "sqrt")) (.con (.str "wave"))) (.fst (.cons (.con (.str "[")) (.cons (.stx true (.var 2)) (.cons (.con (.str "]")) .nil))))))
   .nil) .nil)
  (.cons (.ret (.fst (.cons (.con (.str "(")) (.cons (.stx true (.var 2)) (.cons (.con (.str " ")) (.cons (.stx true (.dtb "SIGNS" t_SIGNS (.var 1))) (.cons (.con (.str " ")) (.cons (.stx true (.call "text_of" 1 self (.cons (.ix (.var 0) (.con (.int 2))) .nil))) (.cons (.con (.str ")")) .nil)))))))))
  .nil))))))
def g_text_of : Nat → Sem (List Int)
  | 0 => fun _ _ => .er
  | k + 1 => fnR 3 (c_text_of (g_text_of k))
def c_formula_from : CSs (List Int) :=
  (.cons (.ife (.or (.not (.isi (.var 0) .str)) (.one (.cmp .gt (.b1 .len (.var 0)) (.con (.int 200))))) (.cons (.rse "InvalidText")
   .nil) .nil)
  (.cons (.asg false 1 (.call "read" 2 (g_read 6) (.cons (.var 0) (.cons (.con (.int 4)) .nil))))
  (.cons (.ife (.or (.not (.call "is_formula" 1 g_is_formula (.cons (.var 1) .nil))) (.one (.cmp .ne (.call "text_of" 1 (g_text_of 6) (.cons (.var 1) .nil)) (.var 0)))) (.cons (.rse "InvalidText")
   .nil) .nil)
  (.cons (.ret (.var 1))
  .nil))))
def g_formula_from : Sem (List Int) := fnR 2 (c_formula_from)
def c_notation : CSs (List Int) :=
  (.cons (.expr (.call "check_formula" 1 g_check_formula (.cons (.var 0) .nil)))
  (.cons (.ret (.call "text_of" 1 (g_text_of 6) (.cons (.var 0) .nil)))
  .nil))
def g_notation : Sem (List Int) := fnR 1 (c_notation)
end Mf
set_option Elab.async false
set_option linter.all false
set_option maxRecDepth 100000
set_option maxHeartbeats 1000000
namespace Mf
open PySem L2
end Mf
set_option Elab.async false
set_option linter.all false
set_option maxRecDepth 100000
set_option maxHeartbeats 1000000
namespace Mf
open PySem L2
end Mf
set_option Elab.async false
set_option linter.all false
set_option maxRecDepth 100000
set_option maxHeartbeats 1000000
namespace Mf
open PySem L2
end Mf
set_option Elab.async false
set_option linter.all false
set_option maxRecDepth 100000
set_option maxHeartbeats 1000000
namespace Mf
open PySem L2
section
variable {S : Type} {s : S}
end
theorem seq_iff {S : Type} {t : CE S} {a cs : CSs S} {ρ : List SV} {s : S} {k3 : K3} {r : Out S} (h : ev t ρ s = .ok (k3, .bl false) s) (h2 : runs cs ρ s = r) : runs (.cons (.ife t a .nil) cs) ρ s = r := by
  rw [runs_cons, run_ifq h rfl]
  show (runs .nil ρ s).sq _ = _
  rw [runs_nil]
  exact h2
theorem seq_ift {S : Type} {t : CE S} {a b cs : CSs S} {ρ : List SV} {s s' : S} {k3 : K3} {d : D} (h : ev t ρ s = .ok (k3, .bl true) s) (h2 : runs a ρ s = .rt d s') : runs (.cons (.ife t a b) cs) ρ s = .rt d s' := by
  rw [runs_cons, run_ifq h rfl]
  show (runs a ρ s).sq _ = _
  rw [h2]
  rfl
end Mf
set_option Elab.async false
set_option linter.all false
set_option maxRecDepth 100000
set_option maxHeartbeats 1000000
namespace Mf
open PySem L2
end Mf
set_option Elab.async false
set_option linter.all false
set_option maxRecDepth 100000
set_option maxHeartbeats 1000000
namespace Mf
open PySem L2
end Mf
set_option Elab.async false
set_option linter.all false
set_option maxRecDepth 100000
set_option maxHeartbeats 1000000
namespace Mf
open PySem L2
end Mf
set_option Elab.async false
set_option linter.all false
set_option maxRecDepth 100000
set_option maxHeartbeats 1000000
namespace Mf
open PySem L2
end Mf
set_option Elab.async false
set_option linter.all false
set_option maxRecDepth 100000
set_option maxHeartbeats 1000000
namespace Mf
end Mf
set_option Elab.async false
set_option linter.all false
set_option maxRecDepth 100000
set_option maxHeartbeats 1000000
namespace Mf
open PySem L2
end Mf
set_option Elab.async false
set_option linter.all false
set_option maxRecDepth 100000
set_option maxHeartbeats 1000000
namespace Mf
open PySem L2
end Mf
set_option Elab.async false
set_option linter.all false
set_option maxRecDepth 100000
set_option maxHeartbeats 1000000
namespace Mf
open PySem L2
theorem g_is_name_ok' {i : Nat} (h : i < 6) (s : List Int) : g_is_name [.str (nm i)] s = .ok (.bl true) s := by
  match i, h with
  | 0, _ => kernel_rfl
  | 1, _ => kernel_rfl
  | 2, _ => kernel_rfl
  | 3, _ => kernel_rfl
  | 4, _ => kernel_rfl
  | 5, _ => kernel_rfl
theorem isi_int' (k : Int) : isiD .int (.int k) = some true := rfl
theorem isi_bool' (k : Int) : isiD .bool (.int k) = some false := rfl
theorem g_is_between_ok {k a b : Int} (h : a ≤ k ∧ k ≤ b) (s : List Int) : g_is_between [.int k, .int a, .int b] s = .ok (.bl true) s := by
  refine fnR_rt ?_
  unfold c_is_between
  simp only [fnR, runs, run, ev, evA, evT, evI, bindq_ok, ob_ok, sq_nx, sq_rt, onO_some, liftO_some, kd_some, dat_v, dat_t, tru_bl, intOf_int, noExq, stk_v, stk_t, stk_o, stow_tt, stow_fv, stow_ft, eqD_int, cmp_ne, cmp_eq, cmp_gt, cmp_ge, cmp_lt, cmp_le, cmp_in, cmp_notin, cmp_is, cmp_isnot, bin_add, bin_sub, b1_abs, ix0, ix1, items_lst, items_row, put, List.map_cons, List.map_nil, List.cons_append, List.nil_append, List.append_nil, List.length_cons, List.length_nil, List.replicate, List.getElem?_cons_zero, List.getElem?_cons_succ, List.getElem?_nil, List.set_cons_zero, List.set_cons_succ, List.set_nil, Nat.reduceAdd, Nat.reduceSub, Nat.reduceLT, Nat.reduceEqDiff, if_true, ite_true, if_false, ite_false, Option.map_some, Option.map_none, reduceIte, reduceCtorEq, Bool.false_eq_true, Nat.zero_add, Nat.add_zero, Nat.zero_lt_succ, Nat.zero_lt_one, Nat.lt_add_left_iff_pos, Nat.succ_eq_add_one, Nat.reduceLeDiff, isi_int', isi_bool', Bool.not_false, h.1, h.2, decide_true]
theorem atmost_first {f : Fm} {d : Int} (hd : 1 ≤ d) (s : List Int) : ev (S := List Int) (.or (.cmp .lt (.var 1) (.con (.int 1))) (.or (.not (.isi (.var 0) .tuple)) (.or (.not (.chn .le .le (.con (.int 2)) (.b1 .len (.var 0)) (.con (.int 3)))) (.one (.not (.isi (.ix (.var 0) (.con (.int 0))) .str)))))) [.va f.D, .va (.int d), .no] s = .ok (.v, .bl false) s := by
  have h1 : decide (d < 1) = false := decide_eq_false (by omega)
  cases f with
  | bi o p q => cases o <;> (simp only [fnR, runs, run, ev, evA, evT, evI, bindq_ok, ob_ok, sq_nx, sq_rt, onO_some, liftO_some, kd_some, dat_v, dat_t, tru_bl, intOf_int, noExq, stk_v, stk_t, stk_o, stow_tt, stow_fv, stow_ft, eqD_int, cmp_ne, cmp_eq, cmp_gt, cmp_ge, cmp_lt, cmp_le, cmp_in, cmp_notin, cmp_is, cmp_isnot, bin_add, bin_sub, b1_abs, ix0, ix1, items_lst, items_row, put, List.map_cons, List.map_nil, List.cons_append, List.nil_append, List.append_nil, List.length_cons, List.length_nil, List.replicate, List.getElem?_cons_zero, List.getElem?_cons_succ, List.getElem?_nil, List.set_cons_zero, List.set_cons_succ, List.set_nil, Nat.reduceAdd, Nat.reduceSub, Nat.reduceLT, Nat.reduceEqDiff, if_true, ite_true, if_false, ite_false, Option.map_some, Option.map_none, reduceIte, reduceCtorEq, Bool.false_eq_true, Nat.zero_add, Nat.add_zero, Nat.zero_lt_succ, Nat.zero_lt_one, Nat.lt_add_left_iff_pos, Nat.succ_eq_add_one, Nat.reduceLeDiff, h1]; rfl)
  | _ => simp only [fnR, runs, run, ev, evA, evT, evI, bindq_ok, ob_ok, sq_nx, sq_rt, onO_some, liftO_some, kd_some, dat_v, dat_t, tru_bl, intOf_int, noExq, stk_v, stk_t, stk_o, stow_tt, stow_fv, stow_ft, eqD_int, cmp_ne, cmp_eq, cmp_gt, cmp_ge, cmp_lt, cmp_le, cmp_in, cmp_notin, cmp_is, cmp_isnot, bin_add, bin_sub, b1_abs, ix0, ix1, items_lst, items_row, put, List.map_cons, List.map_nil, List.cons_append, List.nil_append, List.append_nil, List.length_cons, List.length_nil, List.replicate, List.getElem?_cons_zero, List.getElem?_cons_succ, List.getElem?_nil, List.set_cons_zero, List.set_cons_succ, List.set_nil, Nat.reduceAdd, Nat.reduceSub, Nat.reduceLT, Nat.reduceEqDiff, if_true, ite_true, if_false, ite_false, Option.map_some, Option.map_none, reduceIte, reduceCtorEq, Bool.false_eq_true, Nat.zero_add, Nat.add_zero, Nat.zero_lt_succ, Nat.zero_lt_one, Nat.lt_add_left_iff_pos, Nat.succ_eq_add_one, Nat.reduceLeDiff, h1]; rfl
theorem atmost_ok (s : List Int) : ∀ (n : Nat) (f : Fm) (d : Int), f.ok → f.dep ≤ n → (f.dep : Int) ≤ d → g_is_at_most n [f.D, .int d] s = .ok (.bl true) s
  | 0, f, _, _, h, _ => by have := f.dep_pos; omega
  | n + 1, .nm i, d, hk, _, hd => by
    have hd : (1 : Int) ≤ d := hd
    refine fnR_rt ?_
    show runs (c_is_at_most _) [.va (Fm.nm i).D, .va (.int d), .no] s = _
    unfold c_is_at_most
    refine seq_iff (atmost_first hd s) ?_
    refine seq_asg (x := (.v, .str "name")) (ρ' := [.va (Fm.nm i).D, .va (.int d), .va (.str "name")]) (by rfl) rfl rfl ?_
    refine seq_ift (k3 := .v) (by kernel_rfl) ?_
    have i1 : ixD (Fm.nm i).D (.int 1) = some (.str (nm i)) := rfl
    have l1 : b1D .len (Fm.nm i).D = some (.v, .int 2) := rfl
    exact seq_ret (k := .v) (by simp only [fnR, runs, run, ev, evA, evT, evI, bindq_ok, ob_ok, sq_nx, sq_rt, onO_some, liftO_some, kd_some, dat_v, dat_t, tru_bl, intOf_int, noExq, stk_v, stk_t, stk_o, stow_tt, stow_fv, stow_ft, eqD_int, cmp_ne, cmp_eq, cmp_gt, cmp_ge, cmp_lt, cmp_le, cmp_in, cmp_notin, cmp_is, cmp_isnot, bin_add, bin_sub, b1_abs, ix0, ix1, items_lst, items_row, put, List.map_cons, List.map_nil, List.cons_append, List.nil_append, List.append_nil, List.length_cons, List.length_nil, List.replicate, List.getElem?_cons_zero, List.getElem?_cons_succ, List.getElem?_nil, List.set_cons_zero, List.set_cons_succ, List.set_nil, Nat.reduceAdd, Nat.reduceSub, Nat.reduceLT, Nat.reduceEqDiff, if_true, ite_true, if_false, ite_false, Option.map_some, Option.map_none, reduceIte, reduceCtorEq, Bool.false_eq_true, Nat.zero_add, Nat.add_zero, Nat.zero_lt_succ, Nat.zero_lt_one, Nat.lt_add_left_iff_pos, Nat.succ_eq_add_one, Nat.reduceLeDiff, i1, l1, decide_true, g_is_name_ok' hk]) nofun
  | n + 1, .nu k, d, hk, _, hd => by
    have hd : (1 : Int) ≤ d := hd
    refine fnR_rt ?_
    show runs (c_is_at_most _) [.va (Fm.nu k).D, .va (.int d), .no] s = _
    unfold c_is_at_most
    refine seq_iff (atmost_first hd s) ?_
    refine seq_asg (x := (.v, .str "number")) (ρ' := [.va (Fm.nu k).D, .va (.int d), .va (.str "number")]) (by rfl) rfl rfl ?_
    refine seq_iff (k3 := .v) (by kernel_rfl) ?_
    refine seq_ift (k3 := .v) (by kernel_rfl) ?_
    have i1 : ixD (Fm.nu k).D (.int 1) = some (.int k) := rfl
    have l1 : b1D .len (Fm.nu k).D = some (.v, .int 2) := rfl
    exact seq_ret (k := .v) (by simp only [fnR, runs, run, ev, evA, evT, evI, bindq_ok, ob_ok, sq_nx, sq_rt, onO_some, liftO_some, kd_some, dat_v, dat_t, tru_bl, intOf_int, noExq, stk_v, stk_t, stk_o, stow_tt, stow_fv, stow_ft, eqD_int, cmp_ne, cmp_eq, cmp_gt, cmp_ge, cmp_lt, cmp_le, cmp_in, cmp_notin, cmp_is, cmp_isnot, bin_add, bin_sub, b1_abs, ix0, ix1, items_lst, items_row, put, List.map_cons, List.map_nil, List.cons_append, List.nil_append, List.append_nil, List.length_cons, List.length_nil, List.replicate, List.getElem?_cons_zero, List.getElem?_cons_succ, List.getElem?_nil, List.set_cons_zero, List.set_cons_succ, List.set_nil, Nat.reduceAdd, Nat.reduceSub, Nat.reduceLT, Nat.reduceEqDiff, if_true, ite_true, if_false, ite_false, Option.map_some, Option.map_none, reduceIte, reduceCtorEq, Bool.false_eq_true, Nat.zero_add, Nat.add_zero, Nat.zero_lt_succ, Nat.zero_lt_one, Nat.lt_add_left_iff_pos, Nat.succ_eq_add_one, Nat.reduceLeDiff, i1, l1, decide_true, g_is_between_ok hk]) nofun
  | n + 1, .rt p, d, hk, hn, hd => by
    have hd' : ((p.dep + 1 : Nat) : Int) ≤ d := hd
    have hn' : p.dep + 1 ≤ n + 1 := hn
    have ih := atmost_ok s n p (d - 1) hk (by omega) (by omega)
    refine fnR_rt ?_
    show runs (c_is_at_most _) [.va (Fm.rt p).D, .va (.int d), .no] s = _
    unfold c_is_at_most
    refine seq_iff (atmost_first (by omega) s) ?_
    refine seq_asg (x := (.v, .str "root")) (ρ' := [.va (Fm.rt p).D, .va (.int d), .va (.str "root")]) (by rfl) rfl rfl ?_
    refine seq_iff (k3 := .v) (by kernel_rfl) ?_
    refine seq_iff (k3 := .v) (by kernel_rfl) ?_
    refine seq_ift (k3 := .v) (by kernel_rfl) ?_
    have i1 : ixD (Fm.rt p).D (.int 1) = some p.D := rfl
    have l1 : b1D .len (Fm.rt p).D = some (.v, .int 2) := rfl
    exact seq_ret (k := .v) (by simp only [fnR, runs, run, ev, evA, evT, evI, bindq_ok, ob_ok, sq_nx, sq_rt, onO_some, liftO_some, kd_some, dat_v, dat_t, tru_bl, intOf_int, noExq, stk_v, stk_t, stk_o, stow_tt, stow_fv, stow_ft, eqD_int, cmp_ne, cmp_eq, cmp_gt, cmp_ge, cmp_lt, cmp_le, cmp_in, cmp_notin, cmp_is, cmp_isnot, bin_add, bin_sub, b1_abs, ix0, ix1, items_lst, items_row, put, List.map_cons, List.map_nil, List.cons_append, List.nil_append, List.append_nil, List.length_cons, List.length_nil, List.replicate, List.getElem?_cons_zero, List.getElem?_cons_succ, List.getElem?_nil, List.set_cons_zero, List.set_cons_succ, List.set_nil, Nat.reduceAdd, Nat.reduceSub, Nat.reduceLT, Nat.reduceEqDiff, if_true, ite_true, if_false, ite_false, Option.map_some, Option.map_none, reduceIte, reduceCtorEq, Bool.false_eq_true, Nat.zero_add, Nat.add_zero, Nat.zero_lt_succ, Nat.zero_lt_one, Nat.lt_add_left_iff_pos, Nat.succ_eq_add_one, Nat.reduceLeDiff, i1, l1, decide_true, ih]) nofun
  | n + 1, .wv p, d, hk, hn, hd => by
    have hd' : ((p.dep + 1 : Nat) : Int) ≤ d := hd
    have hn' : p.dep + 1 ≤ n + 1 := hn
    have ih := atmost_ok s n p (d - 1) hk (by omega) (by omega)
    refine fnR_rt ?_
    show runs (c_is_at_most _) [.va (Fm.wv p).D, .va (.int d), .no] s = _
    unfold c_is_at_most
    refine seq_iff (atmost_first (by omega) s) ?_
    refine seq_asg (x := (.v, .str "wave")) (ρ' := [.va (Fm.wv p).D, .va (.int d), .va (.str "wave")]) (by rfl) rfl rfl ?_
    refine seq_iff (k3 := .v) (by kernel_rfl) ?_
    refine seq_iff (k3 := .v) (by kernel_rfl) ?_
    refine seq_ift (k3 := .v) (by kernel_rfl) ?_
    have i1 : ixD (Fm.wv p).D (.int 1) = some p.D := rfl
    have l1 : b1D .len (Fm.wv p).D = some (.v, .int 2) := rfl
    exact seq_ret (k := .v) (by simp only [fnR, runs, run, ev, evA, evT, evI, bindq_ok, ob_ok, sq_nx, sq_rt, onO_some, liftO_some, kd_some, dat_v, dat_t, tru_bl, intOf_int, noExq, stk_v, stk_t, stk_o, stow_tt, stow_fv, stow_ft, eqD_int, cmp_ne, cmp_eq, cmp_gt, cmp_ge, cmp_lt, cmp_le, cmp_in, cmp_notin, cmp_is, cmp_isnot, bin_add, bin_sub, b1_abs, ix0, ix1, items_lst, items_row, put, List.map_cons, List.map_nil, List.cons_append, List.nil_append, List.append_nil, List.length_cons, List.length_nil, List.replicate, List.getElem?_cons_zero, List.getElem?_cons_succ, List.getElem?_nil, List.set_cons_zero, List.set_cons_succ, List.set_nil, Nat.reduceAdd, Nat.reduceSub, Nat.reduceLT, Nat.reduceEqDiff, if_true, ite_true, if_false, ite_false, Option.map_some, Option.map_none, reduceIte, reduceCtorEq, Bool.false_eq_true, Nat.zero_add, Nat.add_zero, Nat.zero_lt_succ, Nat.zero_lt_one, Nat.lt_add_left_iff_pos, Nat.succ_eq_add_one, Nat.reduceLeDiff, i1, l1, decide_true, ih]) nofun
  | n + 1, .pw p k, d, hk, hn, hd => by
    have hd' : ((p.dep + 1 : Nat) : Int) ≤ d := hd
    have hn' : p.dep + 1 ≤ n + 1 := hn
    have ih := atmost_ok s n p (d - 1) hk.1 (by omega) (by omega)
    refine fnR_rt ?_
    show runs (c_is_at_most _) [.va (Fm.pw p k).D, .va (.int d), .no] s = _
    unfold c_is_at_most
    refine seq_iff (atmost_first (by omega) s) ?_
    refine seq_asg (x := (.v, .str "power")) (ρ' := [.va (Fm.pw p k).D, .va (.int d), .va (.str "power")]) (by rfl) rfl rfl ?_
    refine seq_iff (k3 := .v) (by kernel_rfl) ?_
    refine seq_iff (k3 := .v) (by kernel_rfl) ?_
    refine seq_iff (k3 := .v) (by kernel_rfl) ?_
    have i1 : ixD (Fm.pw p k).D (.int 1) = some p.D := rfl
    have i2 : ixD (Fm.pw p k).D (.int 2) = some (.int k) := rfl
    have l1 : b1D .len (Fm.pw p k).D = some (.v, .int 3) := rfl
    refine seq_iff (k3 := .v) (by simp only [fnR, runs, run, ev, evA, evT, evI, bindq_ok, ob_ok, sq_nx, sq_rt, onO_some, liftO_some, kd_some, dat_v, dat_t, tru_bl, intOf_int, noExq, stk_v, stk_t, stk_o, stow_tt, stow_fv, stow_ft, eqD_int, cmp_ne, cmp_eq, cmp_gt, cmp_ge, cmp_lt, cmp_le, cmp_in, cmp_notin, cmp_is, cmp_isnot, bin_add, bin_sub, b1_abs, ix0, ix1, items_lst, items_row, put, List.map_cons, List.map_nil, List.cons_append, List.nil_append, List.append_nil, List.length_cons, List.length_nil, List.replicate, List.getElem?_cons_zero, List.getElem?_cons_succ, List.getElem?_nil, List.set_cons_zero, List.set_cons_succ, List.set_nil, Nat.reduceAdd, Nat.reduceSub, Nat.reduceLT, Nat.reduceEqDiff, if_true, ite_true, if_false, ite_false, Option.map_some, Option.map_none, reduceIte, reduceCtorEq, Bool.false_eq_true, Nat.zero_add, Nat.add_zero, Nat.zero_lt_succ, Nat.zero_lt_one, Nat.lt_add_left_iff_pos, Nat.succ_eq_add_one, Nat.reduceLeDiff, i1, l1, decide_true, ih, Bool.not_true]) ?_
    refine seq_ift (k3 := .v) (by kernel_rfl) ?_
    exact seq_ret (k := .v) (by simp only [fnR, runs, run, ev, evA, evT, evI, bindq_ok, ob_ok, sq_nx, sq_rt, onO_some, liftO_some, kd_some, dat_v, dat_t, tru_bl, intOf_int, noExq, stk_v, stk_t, stk_o, stow_tt, stow_fv, stow_ft, eqD_int, cmp_ne, cmp_eq, cmp_gt, cmp_ge, cmp_lt, cmp_le, cmp_in, cmp_notin, cmp_is, cmp_isnot, bin_add, bin_sub, b1_abs, ix0, ix1, items_lst, items_row, put, List.map_cons, List.map_nil, List.cons_append, List.nil_append, List.append_nil, List.length_cons, List.length_nil, List.replicate, List.getElem?_cons_zero, List.getElem?_cons_succ, List.getElem?_nil, List.set_cons_zero, List.set_cons_succ, List.set_nil, Nat.reduceAdd, Nat.reduceSub, Nat.reduceLT, Nat.reduceEqDiff, if_true, ite_true, if_false, ite_false, Option.map_some, Option.map_none, reduceIte, reduceCtorEq, Bool.false_eq_true, Nat.zero_add, Nat.add_zero, Nat.zero_lt_succ, Nat.zero_lt_one, Nat.lt_add_left_iff_pos, Nat.succ_eq_add_one, Nat.reduceLeDiff, i2, g_is_between_ok hk.2]) nofun
  | n + 1, .bi o p q, d, hk, hn, hd => by
    have hd' : ((max p.dep q.dep + 1 : Nat) : Int) ≤ d := hd
    have hn' : max p.dep q.dep + 1 ≤ n + 1 := hn
    have ihp := atmost_ok s n p (d - 1) hk.1 (by omega) (by omega)
    have ihq := atmost_ok s n q (d - 1) hk.2 (by omega) (by omega)
    refine fnR_rt ?_
    show runs (c_is_at_most _) [.va (Fm.bi o p q).D, .va (.int d), .no] s = _
    unfold c_is_at_most
    refine seq_iff (atmost_first (by omega) s) ?_
    refine seq_asg (x := (.v, .str o.w)) (ρ' := [.va (Fm.bi o p q).D, .va (.int d), .va (.str o.w)]) (by rfl) rfl rfl ?_
    refine seq_iff (k3 := .v) (by cases o <;> kernel_rfl) ?_
    refine seq_iff (k3 := .v) (by cases o <;> kernel_rfl) ?_
    refine seq_iff (k3 := .v) (by cases o <;> kernel_rfl) ?_
    have i1 : ixD (Fm.bi o p q).D (.int 1) = some p.D := rfl
    have i2 : ixD (Fm.bi o p q).D (.int 2) = some q.D := rfl
    have l1 : b1D .len (Fm.bi o p q).D = some (.v, .int 3) := rfl
    refine seq_iff (k3 := .v) (by simp only [fnR, runs, run, ev, evA, evT, evI, bindq_ok, ob_ok, sq_nx, sq_rt, onO_some, liftO_some, kd_some, dat_v, dat_t, tru_bl, intOf_int, noExq, stk_v, stk_t, stk_o, stow_tt, stow_fv, stow_ft, eqD_int, cmp_ne, cmp_eq, cmp_gt, cmp_ge, cmp_lt, cmp_le, cmp_in, cmp_notin, cmp_is, cmp_isnot, bin_add, bin_sub, b1_abs, ix0, ix1, items_lst, items_row, put, List.map_cons, List.map_nil, List.cons_append, List.nil_append, List.append_nil, List.length_cons, List.length_nil, List.replicate, List.getElem?_cons_zero, List.getElem?_cons_succ, List.getElem?_nil, List.set_cons_zero, List.set_cons_succ, List.set_nil, Nat.reduceAdd, Nat.reduceSub, Nat.reduceLT, Nat.reduceEqDiff, if_true, ite_true, if_false, ite_false, Option.map_some, Option.map_none, reduceIte, reduceCtorEq, Bool.false_eq_true, Nat.zero_add, Nat.add_zero, Nat.zero_lt_succ, Nat.zero_lt_one, Nat.lt_add_left_iff_pos, Nat.succ_eq_add_one, Nat.reduceLeDiff, i1, l1, decide_true, ihp, Bool.not_true]) ?_
    refine seq_iff (k3 := .v) (by cases o <;> kernel_rfl) ?_
    have hin : ev (S := List Int) (.cmp .isin (.var 2) (.tup (.cons (.con (.str "plus")) (.cons (.con (.str "minus")) (.cons (.con (.str "times")) (.cons (.con (.str "over")) .nil)))))) [.va (Fm.bi o p q).D, .va (.int d), .va (.str o.w)] s = .ok (.v, .bl true) s := by cases o <;> kernel_rfl
    refine seq_ret (k := .v) ?_ nofun
    rw [ev, hin]
    simp only [fnR, runs, run, ev, evA, evT, evI, bindq_ok, ob_ok, sq_nx, sq_rt, onO_some, liftO_some, kd_some, dat_v, dat_t, tru_bl, intOf_int, noExq, stk_v, stk_t, stk_o, stow_tt, stow_fv, stow_ft, eqD_int, cmp_ne, cmp_eq, cmp_gt, cmp_ge, cmp_lt, cmp_le, cmp_in, cmp_notin, cmp_is, cmp_isnot, bin_add, bin_sub, b1_abs, ix0, ix1, items_lst, items_row, put, List.map_cons, List.map_nil, List.cons_append, List.nil_append, List.append_nil, List.length_cons, List.length_nil, List.replicate, List.getElem?_cons_zero, List.getElem?_cons_succ, List.getElem?_nil, List.set_cons_zero, List.set_cons_succ, List.set_nil, Nat.reduceAdd, Nat.reduceSub, Nat.reduceLT, Nat.reduceEqDiff, if_true, ite_true, if_false, ite_false, Option.map_some, Option.map_none, reduceIte, reduceCtorEq, Bool.false_eq_true, Nat.zero_add, Nat.add_zero, Nat.zero_lt_succ, Nat.zero_lt_one, Nat.lt_add_left_iff_pos, Nat.succ_eq_add_one, Nat.reduceLeDiff, i2, ihq]
end Mf
set_option Elab.async false
set_option linter.all false
set_option maxRecDepth 100000
set_option maxHeartbeats 1000000
namespace Mf
open PySem L2
theorem g_is_formula_ok {f : Fm} (h : f.ok) (hd : f.dep ≤ 4) (s : List Int) : g_is_formula [f.D] s = .ok (.bl true) s := by
  refine fnR_rt ?_
  unfold c_is_formula
  simp only [fnR, runs, run, ev, evA, evT, evI, bindq_ok, ob_ok, sq_nx, sq_rt, onO_some, liftO_some, kd_some, dat_v, dat_t, tru_bl, intOf_int, noExq, stk_v, stk_t, stk_o, stow_tt, stow_fv, stow_ft, eqD_int, cmp_ne, cmp_eq, cmp_gt, cmp_ge, cmp_lt, cmp_le, cmp_in, cmp_notin, cmp_is, cmp_isnot, bin_add, bin_sub, b1_abs, ix0, ix1, items_lst, items_row, put, List.map_cons, List.map_nil, List.cons_append, List.nil_append, List.append_nil, List.length_cons, List.length_nil, List.replicate, List.getElem?_cons_zero, List.getElem?_cons_succ, List.getElem?_nil, List.set_cons_zero, List.set_cons_succ, List.set_nil, Nat.reduceAdd, Nat.reduceSub, Nat.reduceLT, Nat.reduceEqDiff, if_true, ite_true, if_false, ite_false, Option.map_some, Option.map_none, reduceIte, reduceCtorEq, Bool.false_eq_true, Nat.zero_add, Nat.add_zero, Nat.zero_lt_succ, Nat.zero_lt_one, Nat.lt_add_left_iff_pos, Nat.succ_eq_add_one, Nat.reduceLeDiff, atmost_ok s 6 f 4 h (by omega) (by omega)]
end Mf
set_option Elab.async false
set_option linter.all false
set_option maxRecDepth 100000
set_option maxHeartbeats 1000000
namespace Mf
open PySem L2
variable {p : Addr} {ns : List Int}
theorem len_lst (ds : List D) : b1D .len (.lst ds) = some (.v, .int ds.length) := rfl
theorem ix_lst {ds : List D} {d : Int} (h0 : 0 ≤ d) (h1 : d < ds.length) : ∃ x ∈ ds, ixD (.lst ds) (.int d) = some x := by
  obtain ⟨k, rfl⟩ := Int.eq_ofNat_of_zero_le h0
  have hk : k < ds.length := by omega
  exact ⟨ds[k], List.getElem_mem hk, atI_nat (List.getElem?_eq_getElem hk)⟩
theorem pick_ok {s : List Int} {n : Nat} {cs : List D} (h : Tw ns n s) (hn : n < 100000000) (h0 : 0 < cs.length) (h1 : cs.length < 1000000) : ∃ c s', g__law_pick p [.scr ns, .adr p, .lst cs] s = .ok c s' ∧ c ∈ cs ∧ Tw ns (n + 1) s' := by
  obtain ⟨d, s', e1, d0, d1, t⟩ := draw_ok (p := p) (m := (cs.length : Int)) h hn (by omega) (by omega)
  obtain ⟨x, hx, e2⟩ := ix_lst (ds := cs) d0 (by omega)
  refine ⟨x, s', fnR_rt ?_, hx, t⟩
  unfold c__law_pick
  simp only [fnR, runs, run, ev, evA, evT, evI, bindq_ok, ob_ok, sq_nx, sq_rt, onO_some, liftO_some, kd_some, dat_v, dat_t, tru_bl, intOf_int, noExq, stk_v, stk_t, stk_o, stow_tt, stow_fv, stow_ft, eqD_int, cmp_ne, cmp_eq, cmp_gt, cmp_ge, cmp_lt, cmp_le, cmp_in, cmp_notin, cmp_is, cmp_isnot, bin_add, bin_sub, b1_abs, ix0, ix1, items_lst, items_row, put, List.map_cons, List.map_nil, List.cons_append, List.nil_append, List.append_nil, List.length_cons, List.length_nil, List.replicate, List.getElem?_cons_zero, List.getElem?_cons_succ, List.getElem?_nil, List.set_cons_zero, List.set_cons_succ, List.set_nil, Nat.reduceAdd, Nat.reduceSub, Nat.reduceLT, Nat.reduceEqDiff, if_true, ite_true, if_false, ite_false, Option.map_some, Option.map_none, reduceIte, reduceCtorEq, Bool.false_eq_true, Nat.zero_add, Nat.add_zero, Nat.zero_lt_succ, Nat.zero_lt_one, Nat.lt_add_left_iff_pos, Nat.succ_eq_add_one, Nat.reduceLeDiff, len_lst, g__law_draw, e1, e2]
theorem sign_ok {d : Int} (h0 : 0 ≤ d) (h1 : d < 6) : ∃ i < 6, ixD (.str "abcdef") (.int d) = some (.str (nm i)) := by
  have : d = 0 ∨ d = 1 ∨ d = 2 ∨ d = 3 ∨ d = 4 ∨ d = 5 := by omega
  rcases this with rfl | rfl | rfl | rfl | rfl | rfl
  · exact ⟨0, by decide, by kernel_rfl⟩
  · exact ⟨1, by decide, by kernel_rfl⟩
  · exact ⟨2, by decide, by kernel_rfl⟩
  · exact ⟨3, by decide, by kernel_rfl⟩
  · exact ⟨4, by decide, by kernel_rfl⟩
  · exact ⟨5, by decide, by kernel_rfl⟩
theorem binop_ok {d : Int} (h0 : 4 ≤ d) (h1 : d < 10) : ∃ o : B4, ixD (.tup [.str "plus", .str "minus", .str "times", .str "over", .str "times", .str "over"]) (.int (d - 4)) = some (.str o.w) := by
  have : d = 4 ∨ d = 5 ∨ d = 6 ∨ d = 7 ∨ d = 8 ∨ d = 9 := by omega
  rcases this with rfl | rfl | rfl | rfl | rfl | rfl
  · exact ⟨.plus, by rfl⟩
  · exact ⟨.minus, by rfl⟩
  · exact ⟨.times, by rfl⟩
  · exact ⟨.over, by rfl⟩
  · exact ⟨.times, by rfl⟩
  · exact ⟨.over, by rfl⟩
theorem formula_ok : ∀ (n deep : Nat) (s : List Int) (m : Nat), 1 ≤ deep → deep ≤ n → deep ≤ 4 → Tw ns m s → m + 8 ^ deep < 1000000 → ∃ (f : Fm) (s' : List Int), g__law_formula p n [.scr ns, .adr p, .int (deep : Int)] s = .ok f.D s' ∧ f.ok ∧ f.dep ≤ deep ∧ Tw ns (m + 8 ^ deep) s'
  | 0, deep, _, _, h1, h2, _, _, _ => by omega
  | n + 1, deep, s, m, h1, h2, h4, ht, hm => by
    have p8 : 8 ≤ 8 ^ deep := Nat.le_trans (by decide : 8 ≤ 8 ^ 1) (Nat.pow_le_pow_right (by decide) h1)
    obtain ⟨way, s1, e1, w0, w1, t1⟩ := draw_ok (p := p) (m := 10) ht (by omega) (by decide) (by decide)
    have en : ∀ (f : Fm) (s' : List Int), runs (c__law_formula p (g__law_formula p n)) [.va (.scr ns), .va (.adr p), .va (.int (deep : Int)), .no, .no, .no] s = .rt f.D s' → g__law_formula p (n + 1) [.scr ns, .adr p, .int (deep : Int)] s = .ok f.D s' := fun f s' h => fnR_rt h
    have st : ∀ (r : Out (List Int)) (cs : CSs (List Int)), runs cs [.va (.scr ns), .va (.adr p), .va (.int (deep : Int)), .va (.int way), .no, .no] s1 = r →
        runs (.cons (.asg false 3 (.call "_law_draw" 3 (g__law_draw p) (.cons (.var 0) (.cons (.var 1) (.cons (.con (.int 10)) .nil))))) cs) [.va (.scr ns), .va (.adr p), .va (.int (deep : Int)), .no, .no, .no] s = r := fun r cs h =>
      seq_nx (run_asgq (x := (.v, .int way)) (s1 := s1) (by simp only [fnR, runs, run, ev, evA, evT, evI, bindq_ok, ob_ok, sq_nx, sq_rt, onO_some, liftO_some, kd_some, dat_v, dat_t, tru_bl, intOf_int, noExq, stk_v, stk_t, stk_o, stow_tt, stow_fv, stow_ft, eqD_int, cmp_ne, cmp_eq, cmp_gt, cmp_ge, cmp_lt, cmp_le, cmp_in, cmp_notin, cmp_is, cmp_isnot, bin_add, bin_sub, b1_abs, ix0, ix1, items_lst, items_row, put, List.map_cons, List.map_nil, List.cons_append, List.nil_append, List.append_nil, List.length_cons, List.length_nil, List.replicate, List.getElem?_cons_zero, List.getElem?_cons_succ, List.getElem?_nil, List.set_cons_zero, List.set_cons_succ, List.set_nil, Nat.reduceAdd, Nat.reduceSub, Nat.reduceLT, Nat.reduceEqDiff, if_true, ite_true, if_false, ite_false, Option.map_some, Option.map_none, reduceIte, reduceCtorEq, Bool.false_eq_true, Nat.zero_add, Nat.add_zero, Nat.zero_lt_succ, Nat.zero_lt_one, Nat.lt_add_left_iff_pos, Nat.succ_eq_add_one, Nat.reduceLeDiff, g__law_draw, e1]) rfl rfl) h
    by_cases hq : (deep : Int) = 1 ∨ way < 2
    · have ec : ev (S := List Int) (.or (.cmp .eq (.var 2) (.con (.int 1))) (.one (.cmp .lt (.var 3) (.con (.int 2))))) [.va (.scr ns), .va (.adr p), .va (.int (deep : Int)), .va (.int way), .no, .no] s1 = .ok (.v, .bl true) s1 := by
        simp only [fnR, runs, run, ev, evA, evT, evI, bindq_ok, ob_ok, sq_nx, sq_rt, onO_some, liftO_some, kd_some, dat_v, dat_t, tru_bl, intOf_int, noExq, stk_v, stk_t, stk_o, stow_tt, stow_fv, stow_ft, eqD_int, cmp_ne, cmp_eq, cmp_gt, cmp_ge, cmp_lt, cmp_le, cmp_in, cmp_notin, cmp_is, cmp_isnot, bin_add, bin_sub, b1_abs, ix0, ix1, items_lst, items_row, put, List.map_cons, List.map_nil, List.cons_append, List.nil_append, List.append_nil, List.length_cons, List.length_nil, List.replicate, List.getElem?_cons_zero, List.getElem?_cons_succ, List.getElem?_nil, List.set_cons_zero, List.set_cons_succ, List.set_nil, Nat.reduceAdd, Nat.reduceSub, Nat.reduceLT, Nat.reduceEqDiff, if_true, ite_true, if_false, ite_false, Option.map_some, Option.map_none, reduceIte, reduceCtorEq, Bool.false_eq_true, Nat.zero_add, Nat.add_zero, Nat.zero_lt_succ, Nat.zero_lt_one, Nat.lt_add_left_iff_pos, Nat.succ_eq_add_one, Nat.reduceLeDiff]
        by_cases a : (deep : Int) = 1
        · simp only [a, decide_true, if_true]
        · have b : way < 2 := by omega
          simp only [a, b, decide_true, decide_false, Bool.false_eq_true, if_false]
      obtain ⟨k1, s2, e2, k0, k6, t2⟩ := draw_ok (p := p) (m := 6) t1 (by omega) (by decide) (by decide)
      by_cases hz : k1 = 0
      · subst hz
        obtain ⟨k2, s3, e3, j0, j1, t3⟩ := draw_ok (p := p) (m := 9) t2 (by omega) (by decide) (by decide)
        refine ⟨.nu (1 + k2), s3, en _ _ ?_, ⟨by omega, by omega⟩, h1, t3.mono (by omega)⟩
        unfold c__law_formula
        refine st _ _ ?_
        refine seq_ift ec ?_
        refine seq_rt ?_
        rw [run_ife]
        have ed : (ev (S := List Int) (.cmp .eq (.call "_law_draw" 3 (g__law_draw p) (.cons (.var 0) (.cons (.var 1) (.cons (.con (.int 6)) .nil)))) (.con (.int 0))) [.va (.scr ns), .va (.adr p), .va (.int (deep : Int)), .va (.int way), .no, .no] s1).bind tru = .ok true s2 := by
          simp only [fnR, runs, run, ev, evA, evT, evI, bindq_ok, ob_ok, sq_nx, sq_rt, onO_some, liftO_some, kd_some, dat_v, dat_t, tru_bl, intOf_int, noExq, stk_v, stk_t, stk_o, stow_tt, stow_fv, stow_ft, eqD_int, cmp_ne, cmp_eq, cmp_gt, cmp_ge, cmp_lt, cmp_le, cmp_in, cmp_notin, cmp_is, cmp_isnot, bin_add, bin_sub, b1_abs, ix0, ix1, items_lst, items_row, put, List.map_cons, List.map_nil, List.cons_append, List.nil_append, List.append_nil, List.length_cons, List.length_nil, List.replicate, List.getElem?_cons_zero, List.getElem?_cons_succ, List.getElem?_nil, List.set_cons_zero, List.set_cons_succ, List.set_nil, Nat.reduceAdd, Nat.reduceSub, Nat.reduceLT, Nat.reduceEqDiff, if_true, ite_true, if_false, ite_false, Option.map_some, Option.map_none, reduceIte, reduceCtorEq, Bool.false_eq_true, Nat.zero_add, Nat.add_zero, Nat.zero_lt_succ, Nat.zero_lt_one, Nat.lt_add_left_iff_pos, Nat.succ_eq_add_one, Nat.reduceLeDiff, g__law_draw, e2, decide_true]
        rw [ed]
        simp only [fnR, runs, run, ev, evA, evT, evI, bindq_ok, ob_ok, sq_nx, sq_rt, onO_some, liftO_some, kd_some, dat_v, dat_t, tru_bl, intOf_int, noExq, stk_v, stk_t, stk_o, stow_tt, stow_fv, stow_ft, eqD_int, cmp_ne, cmp_eq, cmp_gt, cmp_ge, cmp_lt, cmp_le, cmp_in, cmp_notin, cmp_is, cmp_isnot, bin_add, bin_sub, b1_abs, ix0, ix1, items_lst, items_row, put, List.map_cons, List.map_nil, List.cons_append, List.nil_append, List.append_nil, List.length_cons, List.length_nil, List.replicate, List.getElem?_cons_zero, List.getElem?_cons_succ, List.getElem?_nil, List.set_cons_zero, List.set_cons_succ, List.set_nil, Nat.reduceAdd, Nat.reduceSub, Nat.reduceLT, Nat.reduceEqDiff, if_true, ite_true, if_false, ite_false, Option.map_some, Option.map_none, reduceIte, reduceCtorEq, Bool.false_eq_true, Nat.zero_add, Nat.add_zero, Nat.zero_lt_succ, Nat.zero_lt_one, Nat.lt_add_left_iff_pos, Nat.succ_eq_add_one, Nat.reduceLeDiff, g__law_draw, e3, lenOk_of (show 2 ≤ 1000000 by decide)]
        rfl
      · obtain ⟨c, s3, e3, hc, t3⟩ := pick_ok (p := p) (cs := [.int 3, .int 4, .int 6]) t2 (by omega) (by decide) (by decide)
        have hc' : ∃ q : Int, c = .int q ∧ 0 < q ∧ q ≤ 6 := by
          simp only [List.mem_cons, List.not_mem_nil, or_false] at hc
          rcases hc with rfl | rfl | rfl
          · exact ⟨3, rfl, by decide, by decide⟩
          · exact ⟨4, rfl, by decide, by decide⟩
          · exact ⟨6, rfl, by decide, by decide⟩
        obtain ⟨q, rfl, q0, q6⟩ := hc'
        obtain ⟨k2, s4, e4, j0, j1, t4⟩ := draw_ok (p := p) (m := q) t3 (by omega) q0 (by omega)
        obtain ⟨i, hi, ei⟩ := sign_ok j0 (by omega)
        refine ⟨.nm i, s4, en _ _ ?_, hi, h1, t4.mono (by omega)⟩
        unfold c__law_formula
        refine st _ _ ?_
        refine seq_ift ec ?_
        refine seq_nx (ρ' := [.va (.scr ns), .va (.adr p), .va (.int (deep : Int)), .va (.int way), .no, .no]) (s' := s2) ?_ ?_
        · rw [run_ife]
          have ed : (ev (S := List Int) (.cmp .eq (.call "_law_draw" 3 (g__law_draw p) (.cons (.var 0) (.cons (.var 1) (.cons (.con (.int 6)) .nil)))) (.con (.int 0))) [.va (.scr ns), .va (.adr p), .va (.int (deep : Int)), .va (.int way), .no, .no] s1).bind tru = .ok false s2 := by
            simp only [fnR, runs, run, ev, evA, evT, evI, bindq_ok, ob_ok, sq_nx, sq_rt, onO_some, liftO_some, kd_some, dat_v, dat_t, tru_bl, intOf_int, noExq, stk_v, stk_t, stk_o, stow_tt, stow_fv, stow_ft, eqD_int, cmp_ne, cmp_eq, cmp_gt, cmp_ge, cmp_lt, cmp_le, cmp_in, cmp_notin, cmp_is, cmp_isnot, bin_add, bin_sub, b1_abs, ix0, ix1, items_lst, items_row, put, List.map_cons, List.map_nil, List.cons_append, List.nil_append, List.append_nil, List.length_cons, List.length_nil, List.replicate, List.getElem?_cons_zero, List.getElem?_cons_succ, List.getElem?_nil, List.set_cons_zero, List.set_cons_succ, List.set_nil, Nat.reduceAdd, Nat.reduceSub, Nat.reduceLT, Nat.reduceEqDiff, if_true, ite_true, if_false, ite_false, Option.map_some, Option.map_none, reduceIte, reduceCtorEq, Bool.false_eq_true, Nat.zero_add, Nat.add_zero, Nat.zero_lt_succ, Nat.zero_lt_one, Nat.lt_add_left_iff_pos, Nat.succ_eq_add_one, Nat.reduceLeDiff, g__law_draw, e2, hz, decide_false]
          rw [ed]
          simp only [fnR, runs, run, ev, evA, evT, evI, bindq_ok, ob_ok, sq_nx, sq_rt, onO_some, liftO_some, kd_some, dat_v, dat_t, tru_bl, intOf_int, noExq, stk_v, stk_t, stk_o, stow_tt, stow_fv, stow_ft, eqD_int, cmp_ne, cmp_eq, cmp_gt, cmp_ge, cmp_lt, cmp_le, cmp_in, cmp_notin, cmp_is, cmp_isnot, bin_add, bin_sub, b1_abs, ix0, ix1, items_lst, items_row, put, List.map_cons, List.map_nil, List.cons_append, List.nil_append, List.append_nil, List.length_cons, List.length_nil, List.replicate, List.getElem?_cons_zero, List.getElem?_cons_succ, List.getElem?_nil, List.set_cons_zero, List.set_cons_succ, List.set_nil, Nat.reduceAdd, Nat.reduceSub, Nat.reduceLT, Nat.reduceEqDiff, if_true, ite_true, if_false, ite_false, Option.map_some, Option.map_none, reduceIte, reduceCtorEq, Bool.false_eq_true, Nat.zero_add, Nat.add_zero, Nat.zero_lt_succ, Nat.zero_lt_one, Nat.lt_add_left_iff_pos, Nat.succ_eq_add_one, Nat.reduceLeDiff]
        · simp only [fnR, runs, run, ev, evA, evT, evI, bindq_ok, ob_ok, sq_nx, sq_rt, onO_some, liftO_some, kd_some, dat_v, dat_t, tru_bl, intOf_int, noExq, stk_v, stk_t, stk_o, stow_tt, stow_fv, stow_ft, eqD_int, cmp_ne, cmp_eq, cmp_gt, cmp_ge, cmp_lt, cmp_le, cmp_in, cmp_notin, cmp_is, cmp_isnot, bin_add, bin_sub, b1_abs, ix0, ix1, items_lst, items_row, put, List.map_cons, List.map_nil, List.cons_append, List.nil_append, List.append_nil, List.length_cons, List.length_nil, List.replicate, List.getElem?_cons_zero, List.getElem?_cons_succ, List.getElem?_nil, List.set_cons_zero, List.set_cons_succ, List.set_nil, Nat.reduceAdd, Nat.reduceSub, Nat.reduceLT, Nat.reduceEqDiff, if_true, ite_true, if_false, ite_false, Option.map_some, Option.map_none, reduceIte, reduceCtorEq, Bool.false_eq_true, Nat.zero_add, Nat.add_zero, Nat.zero_lt_succ, Nat.zero_lt_one, Nat.lt_add_left_iff_pos, Nat.succ_eq_add_one, Nat.reduceLeDiff, g__law_draw, lenOk_of (show 3 ≤ 1000000 by decide), e3, e4, ei, lenOk_of (show 2 ≤ 1000000 by decide)]
          rfl
    · have ec : ev (S := List Int) (.or (.cmp .eq (.var 2) (.con (.int 1))) (.one (.cmp .lt (.var 3) (.con (.int 2))))) [.va (.scr ns), .va (.adr p), .va (.int (deep : Int)), .va (.int way), .no, .no] s1 = .ok (.v, .bl false) s1 := by
        have a : ¬ (deep : Int) = 1 := fun z => hq (.inl z)
        have b : ¬ way < 2 := fun z => hq (.inr z)
        simp only [fnR, runs, run, ev, evA, evT, evI, bindq_ok, ob_ok, sq_nx, sq_rt, onO_some, liftO_some, kd_some, dat_v, dat_t, tru_bl, intOf_int, noExq, stk_v, stk_t, stk_o, stow_tt, stow_fv, stow_ft, eqD_int, cmp_ne, cmp_eq, cmp_gt, cmp_ge, cmp_lt, cmp_le, cmp_in, cmp_notin, cmp_is, cmp_isnot, bin_add, bin_sub, b1_abs, ix0, ix1, items_lst, items_row, put, List.map_cons, List.map_nil, List.cons_append, List.nil_append, List.append_nil, List.length_cons, List.length_nil, List.replicate, List.getElem?_cons_zero, List.getElem?_cons_succ, List.getElem?_nil, List.set_cons_zero, List.set_cons_succ, List.set_nil, Nat.reduceAdd, Nat.reduceSub, Nat.reduceLT, Nat.reduceEqDiff, if_true, ite_true, if_false, ite_false, Option.map_some, Option.map_none, reduceIte, reduceCtorEq, Bool.false_eq_true, Nat.zero_add, Nat.add_zero, Nat.zero_lt_succ, Nat.zero_lt_one, Nat.lt_add_left_iff_pos, Nat.succ_eq_add_one, Nat.reduceLeDiff, a, b, decide_false]
      obtain ⟨d', rfl⟩ : ∃ d', deep = d' + 1 := ⟨deep - 1, by omega⟩
      have hd1 : 1 ≤ d' := by omega
      have pw : 8 ^ (d' + 1) = 8 ^ d' * 8 := Nat.pow_succ ..
      have pw1 : 1 ≤ 8 ^ d' := Nat.pow_pos (by decide)
      have pw2 : 8 ^ d' ≤ 512 := Nat.le_trans (Nat.pow_le_pow_right (by decide) (show d' ≤ 3 by omega)) (by decide)
      obtain ⟨f1, s2, e2, o1, de1, t2⟩ := formula_ok n d' s1 (m + 1) hd1 (by omega) (by omega) t1 (by omega)
      have es : ((d' + 1 : Nat) : Int) - 1 = (d' : Int) := by omega
      have mid : ∀ (r : Out (List Int)) (cs : CSs (List Int)), runs cs [.va (.scr ns), .va (.adr p), .va (.int ((d' + 1 : Nat) : Int)), .va (.int way), .va f1.D, .no] s2 = r →
          runs (.cons (.asg false 4 (.call "_law_formula" 3 (g__law_formula p n) (.cons (.var 0) (.cons (.var 1) (.cons (.bin .sub (.var 2) (.con (.int 1))) .nil))))) cs) [.va (.scr ns), .va (.adr p), .va (.int ((d' + 1 : Nat) : Int)), .va (.int way), .no, .no] s1 = r := fun r cs h =>
        seq_nx (run_asgq (x := (.v, f1.D)) (s1 := s2) (by simp only [fnR, runs, run, ev, evA, evT, evI, bindq_ok, ob_ok, sq_nx, sq_rt, onO_some, liftO_some, kd_some, dat_v, dat_t, tru_bl, intOf_int, noExq, stk_v, stk_t, stk_o, stow_tt, stow_fv, stow_ft, eqD_int, cmp_ne, cmp_eq, cmp_gt, cmp_ge, cmp_lt, cmp_le, cmp_in, cmp_notin, cmp_is, cmp_isnot, bin_add, bin_sub, b1_abs, ix0, ix1, items_lst, items_row, put, List.map_cons, List.map_nil, List.cons_append, List.nil_append, List.append_nil, List.length_cons, List.length_nil, List.replicate, List.getElem?_cons_zero, List.getElem?_cons_succ, List.getElem?_nil, List.set_cons_zero, List.set_cons_succ, List.set_nil, Nat.reduceAdd, Nat.reduceSub, Nat.reduceLT, Nat.reduceEqDiff, if_true, ite_true, if_false, ite_false, Option.map_some, Option.map_none, reduceIte, reduceCtorEq, Bool.false_eq_true, Nat.zero_add, Nat.add_zero, Nat.zero_lt_succ, Nat.zero_lt_one, Nat.lt_add_left_iff_pos, Nat.succ_eq_add_one, Nat.reduceLeDiff, es, e2]) rfl rfl) h
      by_cases w2 : way = 2
      · subst w2
        obtain ⟨k2, s3, e3, j0, j1, t3⟩ := draw_ok (p := p) (m := 7) t2 (by omega) (by decide) (by decide)
        refine ⟨.pw f1 (k2 - 3), s3, en _ _ ?_, ⟨o1, by omega, by omega⟩, Nat.succ_le_succ de1, t3.mono (by omega)⟩
        unfold c__law_formula
        refine st _ _ (seq_iff ec (mid _ _ ?_))
        refine seq_rt ?_
        rw [run_ifq (k := true) (k3 := .v) (s1 := s2) (by rfl) rfl]
        simp only [fnR, runs, run, ev, evA, evT, evI, bindq_ok, ob_ok, sq_nx, sq_rt, onO_some, liftO_some, kd_some, dat_v, dat_t, tru_bl, intOf_int, noExq, stk_v, stk_t, stk_o, stow_tt, stow_fv, stow_ft, eqD_int, cmp_ne, cmp_eq, cmp_gt, cmp_ge, cmp_lt, cmp_le, cmp_in, cmp_notin, cmp_is, cmp_isnot, bin_add, bin_sub, b1_abs, ix0, ix1, items_lst, items_row, put, List.map_cons, List.map_nil, List.cons_append, List.nil_append, List.append_nil, List.length_cons, List.length_nil, List.replicate, List.getElem?_cons_zero, List.getElem?_cons_succ, List.getElem?_nil, List.set_cons_zero, List.set_cons_succ, List.set_nil, Nat.reduceAdd, Nat.reduceSub, Nat.reduceLT, Nat.reduceEqDiff, if_true, ite_true, if_false, ite_false, Option.map_some, Option.map_none, reduceIte, reduceCtorEq, Bool.false_eq_true, Nat.zero_add, Nat.add_zero, Nat.zero_lt_succ, Nat.zero_lt_one, Nat.lt_add_left_iff_pos, Nat.succ_eq_add_one, Nat.reduceLeDiff, g__law_draw, e3, lenOk_of (show 3 ≤ 1000000 by decide)]
        rfl
      · by_cases w3 : way = 3
        · subst w3
          obtain ⟨c, s3, e3, hc, t3⟩ := pick_ok (p := p) (cs := [.str "root", .str "root", .str "wave"]) t2 (by omega) (by decide) (by decide)
          simp only [List.mem_cons, List.not_mem_nil, or_false] at hc
          have fin : ∀ (f : Fm), f.D = .tup [c, f1.D] → runs (c__law_formula p (g__law_formula p n)) [.va (.scr ns), .va (.adr p), .va (.int ((d' + 1 : Nat) : Int)), .no, .no, .no] s = .rt f.D s3 := fun f hf => by
            unfold c__law_formula
            refine st _ _ (seq_iff ec (mid _ _ ?_))
            refine seq_iff (k3 := .v) (by rfl) ?_
            refine seq_rt ?_
            rw [run_ifq (k := true) (k3 := .v) (s1 := s2) (by rfl) rfl, hf]
            simp only [fnR, runs, run, ev, evA, evT, evI, bindq_ok, ob_ok, sq_nx, sq_rt, onO_some, liftO_some, kd_some, dat_v, dat_t, tru_bl, intOf_int, noExq, stk_v, stk_t, stk_o, stow_tt, stow_fv, stow_ft, eqD_int, cmp_ne, cmp_eq, cmp_gt, cmp_ge, cmp_lt, cmp_le, cmp_in, cmp_notin, cmp_is, cmp_isnot, bin_add, bin_sub, b1_abs, ix0, ix1, items_lst, items_row, put, List.map_cons, List.map_nil, List.cons_append, List.nil_append, List.append_nil, List.length_cons, List.length_nil, List.replicate, List.getElem?_cons_zero, List.getElem?_cons_succ, List.getElem?_nil, List.set_cons_zero, List.set_cons_succ, List.set_nil, Nat.reduceAdd, Nat.reduceSub, Nat.reduceLT, Nat.reduceEqDiff, if_true, ite_true, if_false, ite_false, Option.map_some, Option.map_none, reduceIte, reduceCtorEq, Bool.false_eq_true, Nat.zero_add, Nat.add_zero, Nat.zero_lt_succ, Nat.zero_lt_one, Nat.lt_add_left_iff_pos, Nat.succ_eq_add_one, Nat.reduceLeDiff, lenOk_of (show 3 ≤ 1000000 by decide), e3, lenOk_of (show 2 ≤ 1000000 by decide)]
          rcases hc with rfl | rfl | rfl
          · exact ⟨.rt f1, s3, en _ _ (fin _ rfl), o1, Nat.succ_le_succ de1, t3.mono (by omega)⟩
          · exact ⟨.rt f1, s3, en _ _ (fin _ rfl), o1, Nat.succ_le_succ de1, t3.mono (by omega)⟩
          · exact ⟨.wv f1, s3, en _ _ (fin _ rfl), o1, Nat.succ_le_succ de1, t3.mono (by omega)⟩
        · obtain ⟨o, eo⟩ := binop_ok (d := way) (by omega) w1
          obtain ⟨f2, s3, e3, o2, de2, t3⟩ := formula_ok n d' s2 (m + 1 + 8 ^ d') hd1 (by omega) (by omega) t2 (by omega)
          refine ⟨.bi o f1 f2, s3, en _ _ ?_, ⟨o1, o2⟩, Nat.succ_le_succ (Nat.max_le.mpr ⟨de1, de2⟩), t3.mono (by omega)⟩
          unfold c__law_formula
          refine st _ _ (seq_iff ec (mid _ _ ?_))
          refine seq_iff (k3 := .v) (by simp only [fnR, runs, run, ev, evA, evT, evI, bindq_ok, ob_ok, sq_nx, sq_rt, onO_some, liftO_some, kd_some, dat_v, dat_t, tru_bl, intOf_int, noExq, stk_v, stk_t, stk_o, stow_tt, stow_fv, stow_ft, eqD_int, cmp_ne, cmp_eq, cmp_gt, cmp_ge, cmp_lt, cmp_le, cmp_in, cmp_notin, cmp_is, cmp_isnot, bin_add, bin_sub, b1_abs, ix0, ix1, items_lst, items_row, put, List.map_cons, List.map_nil, List.cons_append, List.nil_append, List.append_nil, List.length_cons, List.length_nil, List.replicate, List.getElem?_cons_zero, List.getElem?_cons_succ, List.getElem?_nil, List.set_cons_zero, List.set_cons_succ, List.set_nil, Nat.reduceAdd, Nat.reduceSub, Nat.reduceLT, Nat.reduceEqDiff, if_true, ite_true, if_false, ite_false, Option.map_some, Option.map_none, reduceIte, reduceCtorEq, Bool.false_eq_true, Nat.zero_add, Nat.add_zero, Nat.zero_lt_succ, Nat.zero_lt_one, Nat.lt_add_left_iff_pos, Nat.succ_eq_add_one, Nat.reduceLeDiff, w2, decide_false]) ?_
          refine seq_iff (k3 := .v) (by simp only [fnR, runs, run, ev, evA, evT, evI, bindq_ok, ob_ok, sq_nx, sq_rt, onO_some, liftO_some, kd_some, dat_v, dat_t, tru_bl, intOf_int, noExq, stk_v, stk_t, stk_o, stow_tt, stow_fv, stow_ft, eqD_int, cmp_ne, cmp_eq, cmp_gt, cmp_ge, cmp_lt, cmp_le, cmp_in, cmp_notin, cmp_is, cmp_isnot, bin_add, bin_sub, b1_abs, ix0, ix1, items_lst, items_row, put, List.map_cons, List.map_nil, List.cons_append, List.nil_append, List.append_nil, List.length_cons, List.length_nil, List.replicate, List.getElem?_cons_zero, List.getElem?_cons_succ, List.getElem?_nil, List.set_cons_zero, List.set_cons_succ, List.set_nil, Nat.reduceAdd, Nat.reduceSub, Nat.reduceLT, Nat.reduceEqDiff, if_true, ite_true, if_false, ite_false, Option.map_some, Option.map_none, reduceIte, reduceCtorEq, Bool.false_eq_true, Nat.zero_add, Nat.add_zero, Nat.zero_lt_succ, Nat.zero_lt_one, Nat.lt_add_left_iff_pos, Nat.succ_eq_add_one, Nat.reduceLeDiff, w3, decide_false]) ?_
          refine seq_asg (x := (.v, .str o.w)) (ρ' := [.va (.scr ns), .va (.adr p), .va (.int ((d' + 1 : Nat) : Int)), .va (.int way), .va f1.D, .va (.str o.w)]) (by simp only [fnR, runs, run, ev, evA, evT, evI, bindq_ok, ob_ok, sq_nx, sq_rt, onO_some, liftO_some, kd_some, dat_v, dat_t, tru_bl, intOf_int, noExq, stk_v, stk_t, stk_o, stow_tt, stow_fv, stow_ft, eqD_int, cmp_ne, cmp_eq, cmp_gt, cmp_ge, cmp_lt, cmp_le, cmp_in, cmp_notin, cmp_is, cmp_isnot, bin_add, bin_sub, b1_abs, ix0, ix1, items_lst, items_row, put, List.map_cons, List.map_nil, List.cons_append, List.nil_append, List.append_nil, List.length_cons, List.length_nil, List.replicate, List.getElem?_cons_zero, List.getElem?_cons_succ, List.getElem?_nil, List.set_cons_zero, List.set_cons_succ, List.set_nil, Nat.reduceAdd, Nat.reduceSub, Nat.reduceLT, Nat.reduceEqDiff, if_true, ite_true, if_false, ite_false, Option.map_some, Option.map_none, reduceIte, reduceCtorEq, Bool.false_eq_true, Nat.zero_add, Nat.add_zero, Nat.zero_lt_succ, Nat.zero_lt_one, Nat.lt_add_left_iff_pos, Nat.succ_eq_add_one, Nat.reduceLeDiff, lenOk_of (show 6 ≤ 1000000 by decide), eo]) rfl rfl ?_
          simp only [fnR, runs, run, ev, evA, evT, evI, bindq_ok, ob_ok, sq_nx, sq_rt, onO_some, liftO_some, kd_some, dat_v, dat_t, tru_bl, intOf_int, noExq, stk_v, stk_t, stk_o, stow_tt, stow_fv, stow_ft, eqD_int, cmp_ne, cmp_eq, cmp_gt, cmp_ge, cmp_lt, cmp_le, cmp_in, cmp_notin, cmp_is, cmp_isnot, bin_add, bin_sub, b1_abs, ix0, ix1, items_lst, items_row, put, List.map_cons, List.map_nil, List.cons_append, List.nil_append, List.append_nil, List.length_cons, List.length_nil, List.replicate, List.getElem?_cons_zero, List.getElem?_cons_succ, List.getElem?_nil, List.set_cons_zero, List.set_cons_succ, List.set_nil, Nat.reduceAdd, Nat.reduceSub, Nat.reduceLT, Nat.reduceEqDiff, if_true, ite_true, if_false, ite_false, Option.map_some, Option.map_none, reduceIte, reduceCtorEq, Bool.false_eq_true, Nat.zero_add, Nat.add_zero, Nat.zero_lt_succ, Nat.zero_lt_one, Nat.lt_add_left_iff_pos, Nat.succ_eq_add_one, Nat.reduceLeDiff, es, e3, lenOk_of (show 3 ≤ 1000000 by decide)]
          rfl
end Mf
set_option Elab.async false
set_option linter.all false
set_option maxRecDepth 100000
set_option maxHeartbeats 1000000
namespace Mf
open PySem L2
def gd (l : List Nat) : Prop := ∀ c ∈ l, c < 128
theorem okS_mk {l : List Nat} (h : gd l) : okS (mkS l) = true := by
  show (l.toArray.all fun c => decide (c < 0x110000)) = true
  rw [Array.all_eq_true]
  intro i hi
  rw [decide_eq_true_eq]
  have : l.toArray[i] ∈ l := by simp
  have := h _ this
  omega
theorem sh_mk {l : List Nat} (h : gd l) (n : Nat) : (D.str (mkS l)).sh n = true := by cases n <;> exact okS_mk h
theorem eqD_mk {a b : List Nat} (ha : gd a) (hb : gd b) : eqD (.str (mkS a)) (.str (mkS b)) = some (decide (a = b)) := by
  unfold eqD
  rw [sh_mk ha, sh_mk hb]
  show some (mkS a == mkS b) = _
  congr 1
  rw [Bool.eq_iff_iff, beq_iff_eq, decide_eq_true_eq]
  exact ⟨mkS_inj, fun e => by rw [e]⟩
theorem in_mk (c : Nat) (z : List Nat) : inD (.str (mkS [c])) (.str (mkS z)) = some (decide (c ∈ z)) := by
  show some (!(Builtin.Str.occurrences (mkS z) ⟨#[c]⟩ 0 (mkS z).length 1).isEmpty) = _
  rw [PySem.StrLaws.found_one, mkS_cps]
theorem gd_one {c : Nat} (h : c < 128) : gd [c] := fun x hx => by rw [List.mem_singleton] at hx; omega
theorem gd_nil : gd [] := fun _ h => nomatch h
theorem gd_cons {c : Nat} {l : List Nat} (h : c < 128) (hl : gd l) : gd (c :: l) := fun x hx => by
  rcases List.mem_cons.mp hx with rfl | hx
  · exact h
  · exact hl _ hx
theorem gd_app {a b : List Nat} (ha : gd a) (hb : gd b) : gd (a ++ b) := fun x hx => by
  rcases List.mem_append.mp hx with h | h
  · exact ha _ h
  · exact hb _ h
theorem gd_sl {l : List Nat} (h : gd l) (lo hi : Option Int) : gd (sl l lo hi) := fun x hx => h x (List.mem_of_mem_drop (List.mem_of_mem_take hx))
theorem b1_int (b : Bool) : b1D .int (.bl b) = some (.v, .int (if b then 1 else 0)) := rfl
theorem str2 : ("([" : Str) = mkS [40, 91] := rfl
theorem str3 : (")]" : Str) = mkS [41, 93] := rfl
theorem str4 : (" " : Str) = mkS [32] := rfl
theorem split_body {t : D} {d i : Int} {c : Nat} (hc : c < 128) (s : List Int) : runs b_split_place_0 [.va t, .va (.int d), .va (.int i), .va (.str (mkS [c]))] s = if d + opn c - cls c = 1 ∧ c = 32 then .rt (.int i) s else .nx [.va t, .va (.int (d + opn c - cls c)), .va (.int i), .va (.str (mkS [c]))] s := by
  unfold b_split_place_0
  refine seq_asg (x := (.v, .int (d + opn c - cls c))) (ρ' := [.va t, .va (.int (d + opn c - cls c)), .va (.int i), .va (.str (mkS [c]))]) ?_ rfl rfl ?_
  · simp only [fnR, runs, run, ev, evA, evT, evI, bindq_ok, ob_ok, sq_nx, sq_rt, onO_some, liftO_some, kd_some, dat_v, dat_t, tru_bl, intOf_int, noExq, stk_v, stk_t, stk_o, stow_tt, stow_fv, stow_ft, eqD_int, cmp_ne, cmp_eq, cmp_gt, cmp_ge, cmp_lt, cmp_le, cmp_in, cmp_notin, cmp_is, cmp_isnot, bin_add, bin_sub, b1_abs, ix0, ix1, items_lst, items_row, put, List.map_cons, List.map_nil, List.cons_append, List.nil_append, List.append_nil, List.length_cons, List.length_nil, List.replicate, List.getElem?_cons_zero, List.getElem?_cons_succ, List.getElem?_nil, List.set_cons_zero, List.set_cons_succ, List.set_nil, Nat.reduceAdd, Nat.reduceSub, Nat.reduceLT, Nat.reduceEqDiff, if_true, ite_true, if_false, ite_false, Option.map_some, Option.map_none, reduceIte, reduceCtorEq, Bool.false_eq_true, Nat.zero_add, Nat.add_zero, Nat.zero_lt_succ, Nat.zero_lt_one, Nat.lt_add_left_iff_pos, Nat.succ_eq_add_one, Nat.reduceLeDiff, str2, str3, in_mk, b1_int, opn, cls]
  · have e : ev (S := List Int) (.and (.cmp .eq (.var 1) (.con (.int 1))) (.one (.cmp .eq (.var 3) (.con (.str " "))))) [.va t, .va (.int (d + opn c - cls c)), .va (.int i), .va (.str (mkS [c]))] s = .ok (.v, .bl (decide (d + opn c - cls c = 1 ∧ c = 32))) s := by
      by_cases h : d + opn c - cls c = 1
      · simp only [fnR, runs, run, ev, evA, evT, evI, bindq_ok, ob_ok, sq_nx, sq_rt, onO_some, liftO_some, kd_some, dat_v, dat_t, tru_bl, intOf_int, noExq, stk_v, stk_t, stk_o, stow_tt, stow_fv, stow_ft, eqD_int, cmp_ne, cmp_eq, cmp_gt, cmp_ge, cmp_lt, cmp_le, cmp_in, cmp_notin, cmp_is, cmp_isnot, bin_add, bin_sub, b1_abs, ix0, ix1, items_lst, items_row, put, List.map_cons, List.map_nil, List.cons_append, List.nil_append, List.append_nil, List.length_cons, List.length_nil, List.replicate, List.getElem?_cons_zero, List.getElem?_cons_succ, List.getElem?_nil, List.set_cons_zero, List.set_cons_succ, List.set_nil, Nat.reduceAdd, Nat.reduceSub, Nat.reduceLT, Nat.reduceEqDiff, if_true, ite_true, if_false, ite_false, Option.map_some, Option.map_none, reduceIte, reduceCtorEq, Bool.false_eq_true, Nat.zero_add, Nat.add_zero, Nat.zero_lt_succ, Nat.zero_lt_one, Nat.lt_add_left_iff_pos, Nat.succ_eq_add_one, Nat.reduceLeDiff, h, str4, eqD_mk (gd_one hc) (gd_one (show 32 < 128 by decide)), true_and, decide_true, List.cons.injEq, and_true]
      · simp only [fnR, runs, run, ev, evA, evT, evI, bindq_ok, ob_ok, sq_nx, sq_rt, onO_some, liftO_some, kd_some, dat_v, dat_t, tru_bl, intOf_int, noExq, stk_v, stk_t, stk_o, stow_tt, stow_fv, stow_ft, eqD_int, cmp_ne, cmp_eq, cmp_gt, cmp_ge, cmp_lt, cmp_le, cmp_in, cmp_notin, cmp_is, cmp_isnot, bin_add, bin_sub, b1_abs, ix0, ix1, items_lst, items_row, put, List.map_cons, List.map_nil, List.cons_append, List.nil_append, List.append_nil, List.length_cons, List.length_nil, List.replicate, List.getElem?_cons_zero, List.getElem?_cons_succ, List.getElem?_nil, List.set_cons_zero, List.set_cons_succ, List.set_nil, Nat.reduceAdd, Nat.reduceSub, Nat.reduceLT, Nat.reduceEqDiff, if_true, ite_true, if_false, ite_false, Option.map_some, Option.map_none, reduceIte, reduceCtorEq, Bool.false_eq_true, Nat.zero_add, Nat.add_zero, Nat.zero_lt_succ, Nat.zero_lt_one, Nat.lt_add_left_iff_pos, Nat.succ_eq_add_one, Nat.reduceLeDiff, h, false_and, decide_false]
    by_cases h : d + opn c - cls c = 1 ∧ c = 32
    · rw [if_pos h]
      rw [decide_eq_true h] at e
      exact seq_ift e (seq_ret (k := .v) (by simp only [fnR, runs, run, ev, evA, evT, evI, bindq_ok, ob_ok, sq_nx, sq_rt, onO_some, liftO_some, kd_some, dat_v, dat_t, tru_bl, intOf_int, noExq, stk_v, stk_t, stk_o, stow_tt, stow_fv, stow_ft, eqD_int, cmp_ne, cmp_eq, cmp_gt, cmp_ge, cmp_lt, cmp_le, cmp_in, cmp_notin, cmp_is, cmp_isnot, bin_add, bin_sub, b1_abs, ix0, ix1, items_lst, items_row, put, List.map_cons, List.map_nil, List.cons_append, List.nil_append, List.append_nil, List.length_cons, List.length_nil, List.replicate, List.getElem?_cons_zero, List.getElem?_cons_succ, List.getElem?_nil, List.set_cons_zero, List.set_cons_succ, List.set_nil, Nat.reduceAdd, Nat.reduceSub, Nat.reduceLT, Nat.reduceEqDiff, if_true, ite_true, if_false, ite_false, Option.map_some, Option.map_none, reduceIte, reduceCtorEq, Bool.false_eq_true, Nat.zero_add, Nat.add_zero, Nat.zero_lt_succ, Nat.zero_lt_one, Nat.lt_add_left_iff_pos, Nat.succ_eq_add_one, Nat.reduceLeDiff]) nofun)
    · rw [if_neg h]
      rw [decide_eq_false h] at e
      exact seq_iff e (runs_nil _)
theorem split_loop {t : D} {s : List Int} : ∀ (cs : List Nat) (i : Nat) (d : Int) (x2 x3 : SV), gd cs →
    (∃ ρ', forR (fun d ρ s => onO (asgT (.cons (.nm 2) (.cons (.nm 3) .nil)) d ρ) fun ρ' => runs b_split_place_0 ρ' s) (enL i cs) [.va t, .va (.int d), x2, x3] s = .nx ρ' s ∧ splitP d i cs = -1) ∨
    forR (fun d ρ s => onO (asgT (.cons (.nm 2) (.cons (.nm 3) .nil)) d ρ) fun ρ' => runs b_split_place_0 ρ' s) (enL i cs) [.va t, .va (.int d), x2, x3] s = .rt (.int (splitP d i cs)) s
  | [], i, d, x2, x3, _ => .inl ⟨_, rfl, rfl⟩
  | c :: cs, i, d, x2, x3, h => by
    have hc : c < 128 := h c List.mem_cons_self
    have hr : gd cs := fun x hx => h x (List.mem_cons_of_mem _ hx)
    have e : (onO (asgT (.cons (.nm 2) (.cons (.nm 3) .nil)) (.tup [.int (i : Int), .str ⟨#[c]⟩]) [.va t, .va (.int d), x2, x3]) fun ρ' => runs b_split_place_0 ρ' s) = if d + opn c - cls c = 1 ∧ c = 32 then .rt (.int i) s else .nx [.va t, .va (.int (d + opn c - cls c)), .va (.int i), .va (.str (mkS [c]))] s := split_body hc s
    rw [enL, forR, e, splitP]
    by_cases q : d + opn c - cls c = 1 ∧ c = 32
    · rw [if_pos q, if_pos q]
      exact .inr rfl
    · rw [if_neg q, if_neg q, sq_nx]
      exact split_loop cs (i + 1) _ _ _ hr
theorem enm_mk {l : List Nat} (h : l.length ≤ 1000) : enmD (.str (mkS l)) = some (enL 0 l) := by
  show (if lenOk (mkS l).length then some (enL 0 (mkS l).cps.toList) else none) = _
  rw [mkS_len, mkS_cps, if_pos (lenOk_of (by omega))]
theorem split_ok {l : List Nat} (h : l.length ≤ 1000) (hg : gd l) (s : List Int) : g_split_place [.str (mkS l)] s = .ok (.int (splitP 0 0 l)) s := by
  refine fnR_rt ?_
  show runs c_split_place [.va (.str (mkS l)), .no, .no, .no] s = _
  unfold c_split_place
  refine seq_asg (x := (.v, .int 0)) (ρ' := [.va (.str (mkS l)), .va (.int 0), .no, .no]) (by simp only [fnR, runs, run, ev, evA, evT, evI, bindq_ok, ob_ok, sq_nx, sq_rt, onO_some, liftO_some, kd_some, dat_v, dat_t, tru_bl, intOf_int, noExq, stk_v, stk_t, stk_o, stow_tt, stow_fv, stow_ft, eqD_int, cmp_ne, cmp_eq, cmp_gt, cmp_ge, cmp_lt, cmp_le, cmp_in, cmp_notin, cmp_is, cmp_isnot, bin_add, bin_sub, b1_abs, ix0, ix1, items_lst, items_row, put, List.map_cons, List.map_nil, List.cons_append, List.nil_append, List.append_nil, List.length_cons, List.length_nil, List.replicate, List.getElem?_cons_zero, List.getElem?_cons_succ, List.getElem?_nil, List.set_cons_zero, List.set_cons_succ, List.set_nil, Nat.reduceAdd, Nat.reduceSub, Nat.reduceLT, Nat.reduceEqDiff, if_true, ite_true, if_false, ite_false, Option.map_some, Option.map_none, reduceIte, reduceCtorEq, Bool.false_eq_true, Nat.zero_add, Nat.add_zero, Nat.zero_lt_succ, Nat.zero_lt_one, Nat.lt_add_left_iff_pos, Nat.succ_eq_add_one, Nat.reduceLeDiff]) rfl rfl ?_
  have ei : evI (S := List Int) true (.enm (.var 0)) [.va (.str (mkS l)), .va (.int 0), .no, .no] s = .ok (enL 0 l) s := by simp only [fnR, runs, run, ev, evA, evT, evI, bindq_ok, ob_ok, sq_nx, sq_rt, onO_some, liftO_some, kd_some, dat_v, dat_t, tru_bl, intOf_int, noExq, stk_v, stk_t, stk_o, stow_tt, stow_fv, stow_ft, eqD_int, cmp_ne, cmp_eq, cmp_gt, cmp_ge, cmp_lt, cmp_le, cmp_in, cmp_notin, cmp_is, cmp_isnot, bin_add, bin_sub, b1_abs, ix0, ix1, items_lst, items_row, put, List.map_cons, List.map_nil, List.cons_append, List.nil_append, List.append_nil, List.length_cons, List.length_nil, List.replicate, List.getElem?_cons_zero, List.getElem?_cons_succ, List.getElem?_nil, List.set_cons_zero, List.set_cons_succ, List.set_nil, Nat.reduceAdd, Nat.reduceSub, Nat.reduceLT, Nat.reduceEqDiff, if_true, ite_true, if_false, ite_false, Option.map_some, Option.map_none, reduceIte, reduceCtorEq, Bool.false_eq_true, Nat.zero_add, Nat.add_zero, Nat.zero_lt_succ, Nat.zero_lt_one, Nat.lt_add_left_iff_pos, Nat.succ_eq_add_one, Nat.reduceLeDiff, enm_mk h]
  rcases split_loop (t := .str (mkS l)) (s := s) l 0 0 .no .no hg with ⟨ρ', e, e2⟩ | e
  · refine seq_nx (run_forq ei e) ?_
    rw [e2]
    exact seq_ret (k := .v) (by simp only [fnR, runs, run, ev, evA, evT, evI, bindq_ok, ob_ok, sq_nx, sq_rt, onO_some, liftO_some, kd_some, dat_v, dat_t, tru_bl, intOf_int, noExq, stk_v, stk_t, stk_o, stow_tt, stow_fv, stow_ft, eqD_int, cmp_ne, cmp_eq, cmp_gt, cmp_ge, cmp_lt, cmp_le, cmp_in, cmp_notin, cmp_is, cmp_isnot, bin_add, bin_sub, b1_abs, ix0, ix1, items_lst, items_row, put, List.map_cons, List.map_nil, List.cons_append, List.nil_append, List.append_nil, List.length_cons, List.length_nil, List.replicate, List.getElem?_cons_zero, List.getElem?_cons_succ, List.getElem?_nil, List.set_cons_zero, List.set_cons_succ, List.set_nil, Nat.reduceAdd, Nat.reduceSub, Nat.reduceLT, Nat.reduceEqDiff, if_true, ite_true, if_false, ite_false, Option.map_some, Option.map_none, reduceIte, reduceCtorEq, Bool.false_eq_true, Nat.zero_add, Nat.add_zero, Nat.zero_lt_succ, Nat.zero_lt_one, Nat.lt_add_left_iff_pos, Nat.succ_eq_add_one, Nat.reduceLeDiff]) nofun
  · exact seq_rt (run_forq ei e)
theorem str5 : ("[" : Str) = mkS [91] := rfl
theorem str6 : ("]" : Str) = mkS [93] := rfl
theorem one_inj (a b : Nat) : decide ([a] = [b]) = decide (a = b) := by simp
theorem close_body {t : D} {d i : Int} {c : Nat} (hc : c < 128) (s : List Int) : runs b_close_place_0 [.va t, .va (.int d), .va (.int i), .va (.str (mkS [c]))] s = if d + opn1 c - cls1 c = 0 then .rt (.int i) s else .nx [.va t, .va (.int (d + opn1 c - cls1 c)), .va (.int i), .va (.str (mkS [c]))] s := by
  unfold b_close_place_0
  refine seq_asg (x := (.v, .int (d + opn1 c - cls1 c))) (ρ' := [.va t, .va (.int (d + opn1 c - cls1 c)), .va (.int i), .va (.str (mkS [c]))]) ?_ rfl rfl ?_
  · simp only [fnR, runs, run, ev, evA, evT, evI, bindq_ok, ob_ok, sq_nx, sq_rt, onO_some, liftO_some, kd_some, dat_v, dat_t, tru_bl, intOf_int, noExq, stk_v, stk_t, stk_o, stow_tt, stow_fv, stow_ft, eqD_int, cmp_ne, cmp_eq, cmp_gt, cmp_ge, cmp_lt, cmp_le, cmp_in, cmp_notin, cmp_is, cmp_isnot, bin_add, bin_sub, b1_abs, ix0, ix1, items_lst, items_row, put, List.map_cons, List.map_nil, List.cons_append, List.nil_append, List.append_nil, List.length_cons, List.length_nil, List.replicate, List.getElem?_cons_zero, List.getElem?_cons_succ, List.getElem?_nil, List.set_cons_zero, List.set_cons_succ, List.set_nil, Nat.reduceAdd, Nat.reduceSub, Nat.reduceLT, Nat.reduceEqDiff, if_true, ite_true, if_false, ite_false, Option.map_some, Option.map_none, reduceIte, reduceCtorEq, Bool.false_eq_true, Nat.zero_add, Nat.add_zero, Nat.zero_lt_succ, Nat.zero_lt_one, Nat.lt_add_left_iff_pos, Nat.succ_eq_add_one, Nat.reduceLeDiff, str5, str6, eqD_mk (gd_one hc) (gd_one (show 91 < 128 by decide)), eqD_mk (gd_one hc) (gd_one (show 93 < 128 by decide)), b1_int, opn1, cls1, one_inj]
  · have e : ev (S := List Int) (.cmp .eq (.var 1) (.con (.int 0))) [.va t, .va (.int (d + opn1 c - cls1 c)), .va (.int i), .va (.str (mkS [c]))] s = .ok (.v, .bl (decide (d + opn1 c - cls1 c = 0))) s := by
      simp only [fnR, runs, run, ev, evA, evT, evI, bindq_ok, ob_ok, sq_nx, sq_rt, onO_some, liftO_some, kd_some, dat_v, dat_t, tru_bl, intOf_int, noExq, stk_v, stk_t, stk_o, stow_tt, stow_fv, stow_ft, eqD_int, cmp_ne, cmp_eq, cmp_gt, cmp_ge, cmp_lt, cmp_le, cmp_in, cmp_notin, cmp_is, cmp_isnot, bin_add, bin_sub, b1_abs, ix0, ix1, items_lst, items_row, put, List.map_cons, List.map_nil, List.cons_append, List.nil_append, List.append_nil, List.length_cons, List.length_nil, List.replicate, List.getElem?_cons_zero, List.getElem?_cons_succ, List.getElem?_nil, List.set_cons_zero, List.set_cons_succ, List.set_nil, Nat.reduceAdd, Nat.reduceSub, Nat.reduceLT, Nat.reduceEqDiff, if_true, ite_true, if_false, ite_false, Option.map_some, Option.map_none, reduceIte, reduceCtorEq, Bool.false_eq_true, Nat.zero_add, Nat.add_zero, Nat.zero_lt_succ, Nat.zero_lt_one, Nat.lt_add_left_iff_pos, Nat.succ_eq_add_one, Nat.reduceLeDiff]
    by_cases h : d + opn1 c - cls1 c = 0
    · rw [if_pos h]
      rw [decide_eq_true h] at e
      exact seq_ift e (seq_ret (k := .v) (by simp only [fnR, runs, run, ev, evA, evT, evI, bindq_ok, ob_ok, sq_nx, sq_rt, onO_some, liftO_some, kd_some, dat_v, dat_t, tru_bl, intOf_int, noExq, stk_v, stk_t, stk_o, stow_tt, stow_fv, stow_ft, eqD_int, cmp_ne, cmp_eq, cmp_gt, cmp_ge, cmp_lt, cmp_le, cmp_in, cmp_notin, cmp_is, cmp_isnot, bin_add, bin_sub, b1_abs, ix0, ix1, items_lst, items_row, put, List.map_cons, List.map_nil, List.cons_append, List.nil_append, List.append_nil, List.length_cons, List.length_nil, List.replicate, List.getElem?_cons_zero, List.getElem?_cons_succ, List.getElem?_nil, List.set_cons_zero, List.set_cons_succ, List.set_nil, Nat.reduceAdd, Nat.reduceSub, Nat.reduceLT, Nat.reduceEqDiff, if_true, ite_true, if_false, ite_false, Option.map_some, Option.map_none, reduceIte, reduceCtorEq, Bool.false_eq_true, Nat.zero_add, Nat.add_zero, Nat.zero_lt_succ, Nat.zero_lt_one, Nat.lt_add_left_iff_pos, Nat.succ_eq_add_one, Nat.reduceLeDiff]) nofun)
    · rw [if_neg h]
      rw [decide_eq_false h] at e
      exact seq_iff e (runs_nil _)
theorem close_loop {t : D} {s : List Int} : ∀ (cs : List Nat) (i : Nat) (d : Int) (x2 x3 : SV), gd cs →
    (∃ ρ', forR (fun d ρ s => onO (asgT (.cons (.nm 2) (.cons (.nm 3) .nil)) d ρ) fun ρ' => runs b_close_place_0 ρ' s) (enL i cs) [.va t, .va (.int d), x2, x3] s = .nx ρ' s ∧ closeP d i cs = -1) ∨
    forR (fun d ρ s => onO (asgT (.cons (.nm 2) (.cons (.nm 3) .nil)) d ρ) fun ρ' => runs b_close_place_0 ρ' s) (enL i cs) [.va t, .va (.int d), x2, x3] s = .rt (.int (closeP d i cs)) s
  | [], i, d, x2, x3, _ => .inl ⟨_, rfl, rfl⟩
  | c :: cs, i, d, x2, x3, h => by
    have hc : c < 128 := h c List.mem_cons_self
    have hr : gd cs := fun x hx => h x (List.mem_cons_of_mem _ hx)
    have e : (onO (asgT (.cons (.nm 2) (.cons (.nm 3) .nil)) (.tup [.int (i : Int), .str ⟨#[c]⟩]) [.va t, .va (.int d), x2, x3]) fun ρ' => runs b_close_place_0 ρ' s) = if d + opn1 c - cls1 c = 0 then .rt (.int i) s else .nx [.va t, .va (.int (d + opn1 c - cls1 c)), .va (.int i), .va (.str (mkS [c]))] s := close_body hc s
    rw [enL, forR, e, closeP]
    by_cases q : d + opn1 c - cls1 c = 0
    · rw [if_pos q, if_pos q]
      exact .inr rfl
    · rw [if_neg q, if_neg q, sq_nx]
      exact close_loop cs (i + 1) _ _ _ hr
theorem close_ok {l : List Nat} (h : l.length ≤ 1000) (hg : gd l) (s : List Int) : g_close_place [.str (mkS l)] s = .ok (.int (closeP 0 0 l)) s := by
  refine fnR_rt ?_
  show runs c_close_place [.va (.str (mkS l)), .no, .no, .no] s = _
  unfold c_close_place
  refine seq_asg (x := (.v, .int 0)) (ρ' := [.va (.str (mkS l)), .va (.int 0), .no, .no]) (by simp only [fnR, runs, run, ev, evA, evT, evI, bindq_ok, ob_ok, sq_nx, sq_rt, onO_some, liftO_some, kd_some, dat_v, dat_t, tru_bl, intOf_int, noExq, stk_v, stk_t, stk_o, stow_tt, stow_fv, stow_ft, eqD_int, cmp_ne, cmp_eq, cmp_gt, cmp_ge, cmp_lt, cmp_le, cmp_in, cmp_notin, cmp_is, cmp_isnot, bin_add, bin_sub, b1_abs, ix0, ix1, items_lst, items_row, put, List.map_cons, List.map_nil, List.cons_append, List.nil_append, List.append_nil, List.length_cons, List.length_nil, List.replicate, List.getElem?_cons_zero, List.getElem?_cons_succ, List.getElem?_nil, List.set_cons_zero, List.set_cons_succ, List.set_nil, Nat.reduceAdd, Nat.reduceSub, Nat.reduceLT, Nat.reduceEqDiff, if_true, ite_true, if_false, ite_false, Option.map_some, Option.map_none, reduceIte, reduceCtorEq, Bool.false_eq_true, Nat.zero_add, Nat.add_zero, Nat.zero_lt_succ, Nat.zero_lt_one, Nat.lt_add_left_iff_pos, Nat.succ_eq_add_one, Nat.reduceLeDiff]) rfl rfl ?_
  have ei : evI (S := List Int) true (.enm (.var 0)) [.va (.str (mkS l)), .va (.int 0), .no, .no] s = .ok (enL 0 l) s := by simp only [fnR, runs, run, ev, evA, evT, evI, bindq_ok, ob_ok, sq_nx, sq_rt, onO_some, liftO_some, kd_some, dat_v, dat_t, tru_bl, intOf_int, noExq, stk_v, stk_t, stk_o, stow_tt, stow_fv, stow_ft, eqD_int, cmp_ne, cmp_eq, cmp_gt, cmp_ge, cmp_lt, cmp_le, cmp_in, cmp_notin, cmp_is, cmp_isnot, bin_add, bin_sub, b1_abs, ix0, ix1, items_lst, items_row, put, List.map_cons, List.map_nil, List.cons_append, List.nil_append, List.append_nil, List.length_cons, List.length_nil, List.replicate, List.getElem?_cons_zero, List.getElem?_cons_succ, List.getElem?_nil, List.set_cons_zero, List.set_cons_succ, List.set_nil, Nat.reduceAdd, Nat.reduceSub, Nat.reduceLT, Nat.reduceEqDiff, if_true, ite_true, if_false, ite_false, Option.map_some, Option.map_none, reduceIte, reduceCtorEq, Bool.false_eq_true, Nat.zero_add, Nat.add_zero, Nat.zero_lt_succ, Nat.zero_lt_one, Nat.lt_add_left_iff_pos, Nat.succ_eq_add_one, Nat.reduceLeDiff, enm_mk h]
  rcases close_loop (t := .str (mkS l)) (s := s) l 0 0 .no .no hg with ⟨ρ', e, e2⟩ | e
  · refine seq_nx (run_forq ei e) ?_
    rw [e2]
    exact seq_ret (k := .v) (by simp only [fnR, runs, run, ev, evA, evT, evI, bindq_ok, ob_ok, sq_nx, sq_rt, onO_some, liftO_some, kd_some, dat_v, dat_t, tru_bl, intOf_int, noExq, stk_v, stk_t, stk_o, stow_tt, stow_fv, stow_ft, eqD_int, cmp_ne, cmp_eq, cmp_gt, cmp_ge, cmp_lt, cmp_le, cmp_in, cmp_notin, cmp_is, cmp_isnot, bin_add, bin_sub, b1_abs, ix0, ix1, items_lst, items_row, put, List.map_cons, List.map_nil, List.cons_append, List.nil_append, List.append_nil, List.length_cons, List.length_nil, List.replicate, List.getElem?_cons_zero, List.getElem?_cons_succ, List.getElem?_nil, List.set_cons_zero, List.set_cons_succ, List.set_nil, Nat.reduceAdd, Nat.reduceSub, Nat.reduceLT, Nat.reduceEqDiff, if_true, ite_true, if_false, ite_false, Option.map_some, Option.map_none, reduceIte, reduceCtorEq, Bool.false_eq_true, Nat.zero_add, Nat.add_zero, Nat.zero_lt_succ, Nat.zero_lt_one, Nat.lt_add_left_iff_pos, Nat.succ_eq_add_one, Nat.reduceLeDiff]) nofun
  · exact seq_rt (run_forq ei e)
end Mf
set_option Elab.async false
set_option linter.all false
set_option maxRecDepth 100000
set_option maxHeartbeats 4000000
namespace Mf
open PySem L2
theorem onS_str {S α : Type} (k3 : K3) (k : Str) (f : Str → Res S α) : onS (k3, .str k) f = f k := rfl
theorem onV_v {S α : Type} (d : D) (s : S) (f : D → S → Res S α) : onV (.v, d) s f = f d s := rfl
theorem sl_mk {l : List Nat} (h : l.length ≤ 1000) (lo hi : Option Int) : slD (.str (mkS l)) lo hi = some (.v, .str (mkS (sl l lo hi))) := by
  show (if lenOk (mkS l).length then some ((.v, .str (cutS (mkS l) lo hi)) : K3 × D) else none) = _
  rw [mkS_len, if_pos (lenOk_of (by omega)), cut_mk]
theorem len_mk {l : List Nat} (h : l.length ≤ 1000) : b1D .len (.str (mkS l)) = some (.v, .int (l.length : Int)) := by
  show (if lenOk (mkS l).length then some ((.v, .int ((mkS l).length : Int)) : K3 × D) else none) = _
  rw [mkS_len, if_pos (lenOk_of (by omega))]
theorem ix_mk {c : Nat} {l : List Nat} (h : (c :: l).length ≤ 1000) : ixD (.str (mkS (c :: l))) (.int 0) = some (.str (mkS [c])) := by
  show (if lenOk (mkS (c :: l)).length then (atI (mkS (c :: l)).cps.toList 0).map (fun c => D.str ⟨#[c]⟩) else none) = _
  rw [mkS_len, if_pos (lenOk_of (by omega)), mkS_cps]
  have e : ixN (c :: l).length 0 = some 0 := by simp [ixN]
  simp [atI, mkS, ixN]
theorem ite_eq {α : Type} {a b : List Nat} {x y : α} : (if mkS a = mkS b then x else y) = if a = b then x else y := by
  by_cases h : a = b
  · rw [if_pos h, if_pos (by rw [h])]
  · rw [if_neg h, if_neg (fun z => h (mkS_inj z))]
theorem words_ok (x : List Nat) : (lookD (mkS x) t_WORDS).getD (.str "none") = .str (wN (wd x)) := by
  have e : lookD (mkS x) t_WORDS = if mkS [43] = mkS x then some (.str "plus") else if mkS [45] = mkS x then some (.str "minus") else if mkS [42] = mkS x then some (.str "times") else if mkS [47] = mkS x then some (.str "over") else none := rfl
  rw [e, ite_eq, ite_eq, ite_eq, ite_eq]
  unfold wd
  split
  · rfl
  · split
    · rfl
    · split
      · rfl
      · split
        · rfl
        · rfl
theorem numbers_ok (x : List Nat) : (lookD (mkS x) t_NUMBERS).getD (.int 9) = .int (nb x) := by
  have e : lookD (mkS x) t_NUMBERS = if mkS [45, 51] = mkS x then some (.int (-3)) else if mkS [45, 50] = mkS x then some (.int (-2)) else if mkS [45, 49] = mkS x then some (.int (-1)) else if mkS [48] = mkS x then some (.int 0) else if mkS [49] = mkS x then some (.int 1) else if mkS [50] = mkS x then some (.int 2) else if mkS [51] = mkS x then some (.int 3) else none := rfl
  rw [e, ite_eq, ite_eq, ite_eq, ite_eq, ite_eq, ite_eq, ite_eq]
  unfold nb
  repeat' (first | rfl | split)
theorem str0 : ("" : Str) = mkS [] := rfl
theorem str7 : ("(" : Str) = mkS [40] := rfl
theorem str8 : ("sqrt" : Str) = mkS [115, 113, 114, 116] := rfl
theorem names_mk : d_NAMES = .str (mkS nms) := rfl
theorem find_mk (c : Nat) : m1D .sfind (.str "0123456789") (.str (mkS [c])) = some (.v, .int (dgt c)) := rfl
theorem rcv_find : rcvD .sfind (.str "0123456789") = true := rfl
theorem read_ok (s : List Int) : ∀ (n d : Nat) (l : List Nat), d < n → l.length ≤ 1000 → gd l → g_read n [.str (mkS l), .int (d : Int)] s = .ok (rd d l).D s
  | 0, d, l, h, _, _ => by omega
  | n + 1, 0, l, h, hl, hg => by
    refine fnR_rt ?_
    show runs (c_read (g_read n)) [.va (.str (mkS l)), .va (.int ((0 : Nat) : Int)), .no, .no] s = .rt .non s
    unfold c_read
    exact seq_ift (k3 := .v) (by simp only [fnR, runs, run, ev, evA, evT, evI, bindq_ok, ob_ok, sq_nx, sq_rt, onO_some, liftO_some, kd_some, dat_v, dat_t, tru_bl, intOf_int, noExq, stk_v, stk_t, stk_o, stow_tt, stow_fv, stow_ft, eqD_int, cmp_ne, cmp_eq, cmp_gt, cmp_ge, cmp_lt, cmp_le, cmp_in, cmp_notin, cmp_is, cmp_isnot, bin_add, bin_sub, b1_abs, ix0, ix1, items_lst, items_row, put, List.map_cons, List.map_nil, List.cons_append, List.nil_append, List.append_nil, List.length_cons, List.length_nil, List.replicate, List.getElem?_cons_zero, List.getElem?_cons_succ, List.getElem?_nil, List.set_cons_zero, List.set_cons_succ, List.set_nil, Nat.reduceAdd, Nat.reduceSub, Nat.reduceLT, Nat.reduceEqDiff, if_true, ite_true, if_false, ite_false, Option.map_some, Option.map_none, reduceIte, reduceCtorEq, Bool.false_eq_true, Nat.zero_add, Nat.add_zero, Nat.zero_lt_succ, Nat.zero_lt_one, Nat.lt_add_left_iff_pos, Nat.succ_eq_add_one, Nat.reduceLeDiff, Int.natCast_zero, decide_true]) (seq_ret (k := .v) (by simp only [fnR, runs, run, ev, evA, evT, evI, bindq_ok, ob_ok, sq_nx, sq_rt, onO_some, liftO_some, kd_some, dat_v, dat_t, tru_bl, intOf_int, noExq, stk_v, stk_t, stk_o, stow_tt, stow_fv, stow_ft, eqD_int, cmp_ne, cmp_eq, cmp_gt, cmp_ge, cmp_lt, cmp_le, cmp_in, cmp_notin, cmp_is, cmp_isnot, bin_add, bin_sub, b1_abs, ix0, ix1, items_lst, items_row, put, List.map_cons, List.map_nil, List.cons_append, List.nil_append, List.append_nil, List.length_cons, List.length_nil, List.replicate, List.getElem?_cons_zero, List.getElem?_cons_succ, List.getElem?_nil, List.set_cons_zero, List.set_cons_succ, List.set_nil, Nat.reduceAdd, Nat.reduceSub, Nat.reduceLT, Nat.reduceEqDiff, if_true, ite_true, if_false, ite_false, Option.map_some, Option.map_none, reduceIte, reduceCtorEq, Bool.false_eq_true, Nat.zero_add, Nat.add_zero, Nat.zero_lt_succ, Nat.zero_lt_one, Nat.lt_add_left_iff_pos, Nat.succ_eq_add_one, Nat.reduceLeDiff]) nofun)
  | n + 1, d + 1, l, h, hl, hg => by
    have ih := fun l' a b => read_ok s n d l' (by omega) a b
    have hd : ((d + 1 : Nat) : Int) - 1 = (d : Int) := by omega
    have hd0 : decide (((d + 1 : Nat) : Int) = 0) = false := decide_eq_false (by omega)
    have two := lenOk_of (show 2 ≤ 1000000 by decide)
    have three := lenOk_of (show 3 ≤ 1000000 by decide)
    refine fnR_rt ?_
    show runs (c_read (g_read n)) [.va (.str (mkS l)), .va (.int ((d + 1 : Nat) : Int)), .no, .no] s = _
    unfold c_read
    match l, hl, hg with
    | [], hl, hg =>
      exact seq_ift (k3 := .v) (by simp only [fnR, runs, run, ev, evA, evT, evI, bindq_ok, ob_ok, sq_nx, sq_rt, onO_some, liftO_some, kd_some, dat_v, dat_t, tru_bl, intOf_int, noExq, stk_v, stk_t, stk_o, stow_tt, stow_fv, stow_ft, eqD_int, cmp_ne, cmp_eq, cmp_gt, cmp_ge, cmp_lt, cmp_le, cmp_in, cmp_notin, cmp_is, cmp_isnot, bin_add, bin_sub, b1_abs, ix0, ix1, items_lst, items_row, put, List.map_cons, List.map_nil, List.cons_append, List.nil_append, List.append_nil, List.length_cons, List.length_nil, List.replicate, List.getElem?_cons_zero, List.getElem?_cons_succ, List.getElem?_nil, List.set_cons_zero, List.set_cons_succ, List.set_nil, Nat.reduceAdd, Nat.reduceSub, Nat.reduceLT, Nat.reduceEqDiff, if_true, ite_true, if_false, ite_false, Option.map_some, Option.map_none, reduceIte, reduceCtorEq, Bool.false_eq_true, Nat.zero_add, Nat.add_zero, Nat.zero_lt_succ, Nat.zero_lt_one, Nat.lt_add_left_iff_pos, Nat.succ_eq_add_one, Nat.reduceLeDiff, hd0, str0, eqD_mk gd_nil gd_nil, decide_true]) (seq_ret (k := .v) (by simp only [fnR, runs, run, ev, evA, evT, evI, bindq_ok, ob_ok, sq_nx, sq_rt, onO_some, liftO_some, kd_some, dat_v, dat_t, tru_bl, intOf_int, noExq, stk_v, stk_t, stk_o, stow_tt, stow_fv, stow_ft, eqD_int, cmp_ne, cmp_eq, cmp_gt, cmp_ge, cmp_lt, cmp_le, cmp_in, cmp_notin, cmp_is, cmp_isnot, bin_add, bin_sub, b1_abs, ix0, ix1, items_lst, items_row, put, List.map_cons, List.map_nil, List.cons_append, List.nil_append, List.append_nil, List.length_cons, List.length_nil, List.replicate, List.getElem?_cons_zero, List.getElem?_cons_succ, List.getElem?_nil, List.set_cons_zero, List.set_cons_succ, List.set_nil, Nat.reduceAdd, Nat.reduceSub, Nat.reduceLT, Nat.reduceEqDiff, if_true, ite_true, if_false, ite_false, Option.map_some, Option.map_none, reduceIte, reduceCtorEq, Bool.false_eq_true, Nat.zero_add, Nat.add_zero, Nat.zero_lt_succ, Nat.zero_lt_one, Nat.lt_add_left_iff_pos, Nat.succ_eq_add_one, Nat.reduceLeDiff]; rfl) nofun)
    | [c], hl, hg =>
      refine seq_iff (k3 := .v) (by simp only [fnR, runs, run, ev, evA, evT, evI, bindq_ok, ob_ok, sq_nx, sq_rt, onO_some, liftO_some, kd_some, dat_v, dat_t, tru_bl, intOf_int, noExq, stk_v, stk_t, stk_o, stow_tt, stow_fv, stow_ft, eqD_int, cmp_ne, cmp_eq, cmp_gt, cmp_ge, cmp_lt, cmp_le, cmp_in, cmp_notin, cmp_is, cmp_isnot, bin_add, bin_sub, b1_abs, ix0, ix1, items_lst, items_row, put, List.map_cons, List.map_nil, List.cons_append, List.nil_append, List.append_nil, List.length_cons, List.length_nil, List.replicate, List.getElem?_cons_zero, List.getElem?_cons_succ, List.getElem?_nil, List.set_cons_zero, List.set_cons_succ, List.set_nil, Nat.reduceAdd, Nat.reduceSub, Nat.reduceLT, Nat.reduceEqDiff, if_true, ite_true, if_false, ite_false, Option.map_some, Option.map_none, reduceIte, reduceCtorEq, Bool.false_eq_true, Nat.zero_add, Nat.add_zero, Nat.zero_lt_succ, Nat.zero_lt_one, Nat.lt_add_left_iff_pos, Nat.succ_eq_add_one, Nat.reduceLeDiff, hd0, str0, eqD_mk hg gd_nil]; rfl) ?_
      refine seq_ift (k3 := .v) (by simp only [fnR, runs, run, ev, evA, evT, evI, bindq_ok, ob_ok, sq_nx, sq_rt, onO_some, liftO_some, kd_some, dat_v, dat_t, tru_bl, intOf_int, noExq, stk_v, stk_t, stk_o, stow_tt, stow_fv, stow_ft, eqD_int, cmp_ne, cmp_eq, cmp_gt, cmp_ge, cmp_lt, cmp_le, cmp_in, cmp_notin, cmp_is, cmp_isnot, bin_add, bin_sub, b1_abs, ix0, ix1, items_lst, items_row, put, List.map_cons, List.map_nil, List.cons_append, List.nil_append, List.append_nil, List.length_cons, List.length_nil, List.replicate, List.getElem?_cons_zero, List.getElem?_cons_succ, List.getElem?_nil, List.set_cons_zero, List.set_cons_succ, List.set_nil, Nat.reduceAdd, Nat.reduceSub, Nat.reduceLT, Nat.reduceEqDiff, if_true, ite_true, if_false, ite_false, Option.map_some, Option.map_none, reduceIte, reduceCtorEq, Bool.false_eq_true, Nat.zero_add, Nat.add_zero, Nat.zero_lt_succ, Nat.zero_lt_one, Nat.lt_add_left_iff_pos, Nat.succ_eq_add_one, Nat.reduceLeDiff, len_mk hl]; rfl) ?_
      refine seq_ret (k := .v) ?_ nofun
      by_cases q : c ∈ nms
      · have e : (rd (d + 1) [c]).D = .tup [.str "name", .str (mkS [c])] := by
          show (if decide (c ∈ nms) then RT.nm c else .nu (dgt c)).D = _
          rw [decide_eq_true q]; rfl
        rw [e]
        simp only [fnR, runs, run, ev, evA, evT, evI, bindq_ok, ob_ok, sq_nx, sq_rt, onO_some, liftO_some, kd_some, dat_v, dat_t, tru_bl, intOf_int, noExq, stk_v, stk_t, stk_o, stow_tt, stow_fv, stow_ft, eqD_int, cmp_ne, cmp_eq, cmp_gt, cmp_ge, cmp_lt, cmp_le, cmp_in, cmp_notin, cmp_is, cmp_isnot, bin_add, bin_sub, b1_abs, ix0, ix1, items_lst, items_row, put, List.map_cons, List.map_nil, List.cons_append, List.nil_append, List.append_nil, List.length_cons, List.length_nil, List.replicate, List.getElem?_cons_zero, List.getElem?_cons_succ, List.getElem?_nil, List.set_cons_zero, List.set_cons_succ, List.set_nil, Nat.reduceAdd, Nat.reduceSub, Nat.reduceLT, Nat.reduceEqDiff, if_true, ite_true, if_false, ite_false, Option.map_some, Option.map_none, reduceIte, reduceCtorEq, Bool.false_eq_true, Nat.zero_add, Nat.add_zero, Nat.zero_lt_succ, Nat.zero_lt_one, Nat.lt_add_left_iff_pos, Nat.succ_eq_add_one, Nat.reduceLeDiff, names_mk, in_mk, q, decide_true, two]
      · have e : (rd (d + 1) [c]).D = .tup [.str "number", .int (dgt c)] := by
          show (if decide (c ∈ nms) then RT.nm c else .nu (dgt c)).D = _
          rw [decide_eq_false q]; rfl
        rw [e]
        simp only [fnR, runs, run, ev, evA, evT, evI, bindq_ok, ob_ok, sq_nx, sq_rt, onO_some, liftO_some, kd_some, dat_v, dat_t, tru_bl, intOf_int, noExq, stk_v, stk_t, stk_o, stow_tt, stow_fv, stow_ft, eqD_int, cmp_ne, cmp_eq, cmp_gt, cmp_ge, cmp_lt, cmp_le, cmp_in, cmp_notin, cmp_is, cmp_isnot, bin_add, bin_sub, b1_abs, ix0, ix1, items_lst, items_row, put, List.map_cons, List.map_nil, List.cons_append, List.nil_append, List.append_nil, List.length_cons, List.length_nil, List.replicate, List.getElem?_cons_zero, List.getElem?_cons_succ, List.getElem?_nil, List.set_cons_zero, List.set_cons_succ, List.set_nil, Nat.reduceAdd, Nat.reduceSub, Nat.reduceLT, Nat.reduceEqDiff, if_true, ite_true, if_false, ite_false, Option.map_some, Option.map_none, reduceIte, reduceCtorEq, Bool.false_eq_true, Nat.zero_add, Nat.add_zero, Nat.zero_lt_succ, Nat.zero_lt_one, Nat.lt_add_left_iff_pos, Nat.succ_eq_add_one, Nat.reduceLeDiff, names_mk, in_mk, q, decide_false, two, find_mk, rcv_find]
    | c :: c2 :: cs, hl, hg =>
      have hc : c < 128 := hg c List.mem_cons_self
      have hlen : decide (((c :: c2 :: cs).length : Int) = 1) = false := decide_eq_false (by simp only [List.length_cons]; omega)
      have erd := rd_two (n := d) (l := c :: c2 :: cs) rfl (by simp)
      refine seq_iff (k3 := .v) (by simp only [fnR, runs, run, ev, evA, evT, evI, bindq_ok, ob_ok, sq_nx, sq_rt, onO_some, liftO_some, kd_some, dat_v, dat_t, tru_bl, intOf_int, noExq, stk_v, stk_t, stk_o, stow_tt, stow_fv, stow_ft, eqD_int, cmp_ne, cmp_eq, cmp_gt, cmp_ge, cmp_lt, cmp_le, cmp_in, cmp_notin, cmp_is, cmp_isnot, bin_add, bin_sub, b1_abs, ix0, ix1, items_lst, items_row, put, List.map_cons, List.map_nil, List.cons_append, List.nil_append, List.append_nil, List.length_cons, List.length_nil, List.replicate, List.getElem?_cons_zero, List.getElem?_cons_succ, List.getElem?_nil, List.set_cons_zero, List.set_cons_succ, List.set_nil, Nat.reduceAdd, Nat.reduceSub, Nat.reduceLT, Nat.reduceEqDiff, if_true, ite_true, if_false, ite_false, Option.map_some, Option.map_none, reduceIte, reduceCtorEq, Bool.false_eq_true, Nat.zero_add, Nat.add_zero, Nat.zero_lt_succ, Nat.zero_lt_one, Nat.lt_add_left_iff_pos, Nat.succ_eq_add_one, Nat.reduceLeDiff, hd0, str0, eqD_mk hg gd_nil]; rfl) ?_
      generalize hL : c :: c2 :: cs = L at hl hg hlen erd
      have hix : ixD (.str (mkS L)) (.int 0) = some (.str (mkS [c])) := by rw [← hL]; exact ix_mk (by rw [hL]; exact hl)
      refine seq_iff (k3 := .v) (by simp only [fnR, runs, run, ev, evA, evT, evI, bindq_ok, ob_ok, sq_nx, sq_rt, onO_some, liftO_some, kd_some, dat_v, dat_t, tru_bl, intOf_int, noExq, stk_v, stk_t, stk_o, stow_tt, stow_fv, stow_ft, eqD_int, cmp_ne, cmp_eq, cmp_gt, cmp_ge, cmp_lt, cmp_le, cmp_in, cmp_notin, cmp_is, cmp_isnot, bin_add, bin_sub, b1_abs, ix0, ix1, items_lst, items_row, put, List.map_cons, List.map_nil, List.cons_append, List.nil_append, List.append_nil, List.length_cons, List.length_nil, List.replicate, List.getElem?_cons_zero, List.getElem?_cons_succ, List.getElem?_nil, List.set_cons_zero, List.set_cons_succ, List.set_nil, Nat.reduceAdd, Nat.reduceSub, Nat.reduceLT, Nat.reduceEqDiff, if_true, ite_true, if_false, ite_false, Option.map_some, Option.map_none, reduceIte, reduceCtorEq, Bool.false_eq_true, Nat.zero_add, Nat.add_zero, Nat.zero_lt_succ, Nat.zero_lt_one, Nat.lt_add_left_iff_pos, Nat.succ_eq_add_one, Nat.reduceLeDiff, len_mk hl, hlen]) ?_
      have ihs := fun lo hi => ih (sl L lo hi) (Nat.le_trans (sl_len _ _ _) hl) (gd_sl hg _ _)
      have e1 : ev (S := List Int) (.cmp .eq (.ix (.var 0) (.con (.int 0))) (.con (.str "("))) [.va (.str (mkS L)), .va (.int ((d + 1 : Nat) : Int)), .no, .no] s = .ok (.v, .bl (decide (c = 40))) s := by
        simp only [fnR, runs, run, ev, evA, evT, evI, bindq_ok, ob_ok, sq_nx, sq_rt, onO_some, liftO_some, kd_some, dat_v, dat_t, tru_bl, intOf_int, noExq, stk_v, stk_t, stk_o, stow_tt, stow_fv, stow_ft, eqD_int, cmp_ne, cmp_eq, cmp_gt, cmp_ge, cmp_lt, cmp_le, cmp_in, cmp_notin, cmp_is, cmp_isnot, bin_add, bin_sub, b1_abs, ix0, ix1, items_lst, items_row, put, List.map_cons, List.map_nil, List.cons_append, List.nil_append, List.append_nil, List.length_cons, List.length_nil, List.replicate, List.getElem?_cons_zero, List.getElem?_cons_succ, List.getElem?_nil, List.set_cons_zero, List.set_cons_succ, List.set_nil, Nat.reduceAdd, Nat.reduceSub, Nat.reduceLT, Nat.reduceEqDiff, if_true, ite_true, if_false, ite_false, Option.map_some, Option.map_none, reduceIte, reduceCtorEq, Bool.false_eq_true, Nat.zero_add, Nat.add_zero, Nat.zero_lt_succ, Nat.zero_lt_one, Nat.lt_add_left_iff_pos, Nat.succ_eq_add_one, Nat.reduceLeDiff, hix, str7, eqD_mk (gd_one hc) (gd_one (show 40 < 128 by decide)), one_inj]
      have e2 : ev (S := List Int) (.cmp .eq (.ix (.var 0) (.con (.int 0))) (.con (.str "["))) [.va (.str (mkS L)), .va (.int ((d + 1 : Nat) : Int)), .no, .no] s = .ok (.v, .bl (decide (c = 91))) s := by
        simp only [fnR, runs, run, ev, evA, evT, evI, bindq_ok, ob_ok, sq_nx, sq_rt, onO_some, liftO_some, kd_some, dat_v, dat_t, tru_bl, intOf_int, noExq, stk_v, stk_t, stk_o, stow_tt, stow_fv, stow_ft, eqD_int, cmp_ne, cmp_eq, cmp_gt, cmp_ge, cmp_lt, cmp_le, cmp_in, cmp_notin, cmp_is, cmp_isnot, bin_add, bin_sub, b1_abs, ix0, ix1, items_lst, items_row, put, List.map_cons, List.map_nil, List.cons_append, List.nil_append, List.append_nil, List.length_cons, List.length_nil, List.replicate, List.getElem?_cons_zero, List.getElem?_cons_succ, List.getElem?_nil, List.set_cons_zero, List.set_cons_succ, List.set_nil, Nat.reduceAdd, Nat.reduceSub, Nat.reduceLT, Nat.reduceEqDiff, if_true, ite_true, if_false, ite_false, Option.map_some, Option.map_none, reduceIte, reduceCtorEq, Bool.false_eq_true, Nat.zero_add, Nat.add_zero, Nat.zero_lt_succ, Nat.zero_lt_one, Nat.lt_add_left_iff_pos, Nat.succ_eq_add_one, Nat.reduceLeDiff, hix, str5, eqD_mk (gd_one hc) (gd_one (show 91 < 128 by decide)), one_inj]
      by_cases q : c = 40
      · rw [erd, decide_eq_true q, if_pos rfl]
        rw [decide_eq_true q] at e1
        refine seq_ift e1 ?_
        refine seq_asg (x := (.v, .int (splitP 0 0 L))) (ρ' := [.va (.str (mkS L)), .va (.int ((d + 1 : Nat) : Int)), .va (.int (splitP 0 0 L)), .no]) (by simp only [fnR, runs, run, ev, evA, evT, evI, bindq_ok, ob_ok, sq_nx, sq_rt, onO_some, liftO_some, kd_some, dat_v, dat_t, tru_bl, intOf_int, noExq, stk_v, stk_t, stk_o, stow_tt, stow_fv, stow_ft, eqD_int, cmp_ne, cmp_eq, cmp_gt, cmp_ge, cmp_lt, cmp_le, cmp_in, cmp_notin, cmp_is, cmp_isnot, bin_add, bin_sub, b1_abs, ix0, ix1, items_lst, items_row, put, List.map_cons, List.map_nil, List.cons_append, List.nil_append, List.append_nil, List.length_cons, List.length_nil, List.replicate, List.getElem?_cons_zero, List.getElem?_cons_succ, List.getElem?_nil, List.set_cons_zero, List.set_cons_succ, List.set_nil, Nat.reduceAdd, Nat.reduceSub, Nat.reduceLT, Nat.reduceEqDiff, if_true, ite_true, if_false, ite_false, Option.map_some, Option.map_none, reduceIte, reduceCtorEq, Bool.false_eq_true, Nat.zero_add, Nat.add_zero, Nat.zero_lt_succ, Nat.zero_lt_one, Nat.lt_add_left_iff_pos, Nat.succ_eq_add_one, Nat.reduceLeDiff, split_ok hl hg]) rfl rfl ?_
        refine seq_asg (x := (.v, .str (wN (wd (sl L (some (splitP 0 0 L + 1)) (some (splitP 0 0 L + 2))))))) (ρ' := [.va (.str (mkS L)), .va (.int ((d + 1 : Nat) : Int)), .va (.int (splitP 0 0 L)), .va (.str (wN (wd (sl L (some (splitP 0 0 L + 1)) (some (splitP 0 0 L + 2))))))]) (by simp only [fnR, runs, run, ev, evA, evT, evI, bindq_ok, ob_ok, sq_nx, sq_rt, onO_some, liftO_some, kd_some, dat_v, dat_t, tru_bl, intOf_int, noExq, stk_v, stk_t, stk_o, stow_tt, stow_fv, stow_ft, eqD_int, cmp_ne, cmp_eq, cmp_gt, cmp_ge, cmp_lt, cmp_le, cmp_in, cmp_notin, cmp_is, cmp_isnot, bin_add, bin_sub, b1_abs, ix0, ix1, items_lst, items_row, put, List.map_cons, List.map_nil, List.cons_append, List.nil_append, List.append_nil, List.length_cons, List.length_nil, List.replicate, List.getElem?_cons_zero, List.getElem?_cons_succ, List.getElem?_nil, List.set_cons_zero, List.set_cons_succ, List.set_nil, Nat.reduceAdd, Nat.reduceSub, Nat.reduceLT, Nat.reduceEqDiff, if_true, ite_true, if_false, ite_false, Option.map_some, Option.map_none, reduceIte, reduceCtorEq, Bool.false_eq_true, Nat.zero_add, Nat.add_zero, Nat.zero_lt_succ, Nat.zero_lt_one, Nat.lt_add_left_iff_pos, Nat.succ_eq_add_one, Nat.reduceLeDiff, sl_mk hl, onS_str, onV_v, words_ok]) rfl rfl ?_
        refine seq_ret (k := .v) ?_ nofun
        simp only [fnR, runs, run, ev, evA, evT, evI, bindq_ok, ob_ok, sq_nx, sq_rt, onO_some, liftO_some, kd_some, dat_v, dat_t, tru_bl, intOf_int, noExq, stk_v, stk_t, stk_o, stow_tt, stow_fv, stow_ft, eqD_int, cmp_ne, cmp_eq, cmp_gt, cmp_ge, cmp_lt, cmp_le, cmp_in, cmp_notin, cmp_is, cmp_isnot, bin_add, bin_sub, b1_abs, ix0, ix1, items_lst, items_row, put, List.map_cons, List.map_nil, List.cons_append, List.nil_append, List.append_nil, List.length_cons, List.length_nil, List.replicate, List.getElem?_cons_zero, List.getElem?_cons_succ, List.getElem?_nil, List.set_cons_zero, List.set_cons_succ, List.set_nil, Nat.reduceAdd, Nat.reduceSub, Nat.reduceLT, Nat.reduceEqDiff, if_true, ite_true, if_false, ite_false, Option.map_some, Option.map_none, reduceIte, reduceCtorEq, Bool.false_eq_true, Nat.zero_add, Nat.add_zero, Nat.zero_lt_succ, Nat.zero_lt_one, Nat.lt_add_left_iff_pos, Nat.succ_eq_add_one, Nat.reduceLeDiff, sl_mk hl, hd, ihs, three, RT.D]
      · rw [erd, decide_eq_false q, if_neg Bool.false_ne_true]
        rw [decide_eq_false q] at e1
        refine seq_iff e1 ?_
        by_cases q' : c = 91
        · rw [decide_eq_true q', if_pos rfl]
          rw [decide_eq_true q'] at e2
          refine seq_ift e2 ?_
          refine seq_asg (x := (.v, .int (closeP 0 0 L))) (ρ' := [.va (.str (mkS L)), .va (.int ((d + 1 : Nat) : Int)), .va (.int (closeP 0 0 L)), .no]) (by simp only [fnR, runs, run, ev, evA, evT, evI, bindq_ok, ob_ok, sq_nx, sq_rt, onO_some, liftO_some, kd_some, dat_v, dat_t, tru_bl, intOf_int, noExq, stk_v, stk_t, stk_o, stow_tt, stow_fv, stow_ft, eqD_int, cmp_ne, cmp_eq, cmp_gt, cmp_ge, cmp_lt, cmp_le, cmp_in, cmp_notin, cmp_is, cmp_isnot, bin_add, bin_sub, b1_abs, ix0, ix1, items_lst, items_row, put, List.map_cons, List.map_nil, List.cons_append, List.nil_append, List.append_nil, List.length_cons, List.length_nil, List.replicate, List.getElem?_cons_zero, List.getElem?_cons_succ, List.getElem?_nil, List.set_cons_zero, List.set_cons_succ, List.set_nil, Nat.reduceAdd, Nat.reduceSub, Nat.reduceLT, Nat.reduceEqDiff, if_true, ite_true, if_false, ite_false, Option.map_some, Option.map_none, reduceIte, reduceCtorEq, Bool.false_eq_true, Nat.zero_add, Nat.add_zero, Nat.zero_lt_succ, Nat.zero_lt_one, Nat.lt_add_left_iff_pos, Nat.succ_eq_add_one, Nat.reduceLeDiff, close_ok hl hg]) rfl rfl ?_
          refine seq_ret (k := .v) ?_ nofun
          simp only [fnR, runs, run, ev, evA, evT, evI, bindq_ok, ob_ok, sq_nx, sq_rt, onO_some, liftO_some, kd_some, dat_v, dat_t, tru_bl, intOf_int, noExq, stk_v, stk_t, stk_o, stow_tt, stow_fv, stow_ft, eqD_int, cmp_ne, cmp_eq, cmp_gt, cmp_ge, cmp_lt, cmp_le, cmp_in, cmp_notin, cmp_is, cmp_isnot, bin_add, bin_sub, b1_abs, ix0, ix1, items_lst, items_row, put, List.map_cons, List.map_nil, List.cons_append, List.nil_append, List.append_nil, List.length_cons, List.length_nil, List.replicate, List.getElem?_cons_zero, List.getElem?_cons_succ, List.getElem?_nil, List.set_cons_zero, List.set_cons_succ, List.set_nil, Nat.reduceAdd, Nat.reduceSub, Nat.reduceLT, Nat.reduceEqDiff, if_true, ite_true, if_false, ite_false, Option.map_some, Option.map_none, reduceIte, reduceCtorEq, Bool.false_eq_true, Nat.zero_add, Nat.add_zero, Nat.zero_lt_succ, Nat.zero_lt_one, Nat.lt_add_left_iff_pos, Nat.succ_eq_add_one, Nat.reduceLeDiff, sl_mk hl, hd, ihs, three, RT.D, onS_str, onV_v, numbers_ok]
        · rw [decide_eq_false q', if_neg Bool.false_ne_true]
          rw [decide_eq_false q'] at e2
          refine seq_iff e2 ?_
          refine seq_ret (k := .v) ?_ nofun
          have ge : gd [115, 113, 114, 116] := gd_cons (by decide) (gd_cons (by decide) (gd_cons (by decide) (gd_one (by decide))))
          by_cases w : sl L none (some 4) = [115, 113, 114, 116]
          · simp only [fnR, runs, run, ev, evA, evT, evI, bindq_ok, ob_ok, sq_nx, sq_rt, onO_some, liftO_some, kd_some, dat_v, dat_t, tru_bl, intOf_int, noExq, stk_v, stk_t, stk_o, stow_tt, stow_fv, stow_ft, eqD_int, cmp_ne, cmp_eq, cmp_gt, cmp_ge, cmp_lt, cmp_le, cmp_in, cmp_notin, cmp_is, cmp_isnot, bin_add, bin_sub, b1_abs, ix0, ix1, items_lst, items_row, put, List.map_cons, List.map_nil, List.cons_append, List.nil_append, List.append_nil, List.length_cons, List.length_nil, List.replicate, List.getElem?_cons_zero, List.getElem?_cons_succ, List.getElem?_nil, List.set_cons_zero, List.set_cons_succ, List.set_nil, Nat.reduceAdd, Nat.reduceSub, Nat.reduceLT, Nat.reduceEqDiff, if_true, ite_true, if_false, ite_false, Option.map_some, Option.map_none, reduceIte, reduceCtorEq, Bool.false_eq_true, Nat.zero_add, Nat.add_zero, Nat.zero_lt_succ, Nat.zero_lt_one, Nat.lt_add_left_iff_pos, Nat.succ_eq_add_one, Nat.reduceLeDiff, sl_mk hl, hd, ihs, two, RT.D, str8, w, eqD_mk ge ge, decide_true, uN]
          · simp only [fnR, runs, run, ev, evA, evT, evI, bindq_ok, ob_ok, sq_nx, sq_rt, onO_some, liftO_some, kd_some, dat_v, dat_t, tru_bl, intOf_int, noExq, stk_v, stk_t, stk_o, stow_tt, stow_fv, stow_ft, eqD_int, cmp_ne, cmp_eq, cmp_gt, cmp_ge, cmp_lt, cmp_le, cmp_in, cmp_notin, cmp_is, cmp_isnot, bin_add, bin_sub, b1_abs, ix0, ix1, items_lst, items_row, put, List.map_cons, List.map_nil, List.cons_append, List.nil_append, List.append_nil, List.length_cons, List.length_nil, List.replicate, List.getElem?_cons_zero, List.getElem?_cons_succ, List.getElem?_nil, List.set_cons_zero, List.set_cons_succ, List.set_nil, Nat.reduceAdd, Nat.reduceSub, Nat.reduceLT, Nat.reduceEqDiff, if_true, ite_true, if_false, ite_false, Option.map_some, Option.map_none, reduceIte, reduceCtorEq, Bool.false_eq_true, Nat.zero_add, Nat.add_zero, Nat.zero_lt_succ, Nat.zero_lt_one, Nat.lt_add_left_iff_pos, Nat.succ_eq_add_one, Nat.reduceLeDiff, sl_mk hl, hd, ihs, two, RT.D, str8, eqD_mk (gd_sl hg _ _) ge, w, decide_false, uN]
end Mf
set_option Elab.async false
set_option linter.all false
set_option maxRecDepth 100000
set_option maxHeartbeats 4000000
namespace Mf
open PySem L2
theorem is_name_b {c : Nat} (hc : c < 128) (s : List Int) : g_is_name [.str (mkS [c])] s = .ok (.bl (decide (c ∈ nms))) s := by
  refine fnR_rt ?_
  show runs c_is_name [.va (.str (mkS [c]))] s = _
  unfold c_is_name
  have i1 : isiD .str (.str (mkS [c])) = some true := rfl
  refine seq_ret (k := .v) ?_ nofun
  simp only [fnR, runs, run, ev, evA, evT, evI, bindq_ok, ob_ok, sq_nx, sq_rt, onO_some, liftO_some, kd_some, dat_v, dat_t, tru_bl, intOf_int, noExq, stk_v, stk_t, stk_o, stow_tt, stow_fv, stow_ft, eqD_int, cmp_ne, cmp_eq, cmp_gt, cmp_ge, cmp_lt, cmp_le, cmp_in, cmp_notin, cmp_is, cmp_isnot, bin_add, bin_sub, b1_abs, ix0, ix1, items_lst, items_row, put, List.map_cons, List.map_nil, List.cons_append, List.nil_append, List.append_nil, List.length_cons, List.length_nil, List.replicate, List.getElem?_cons_zero, List.getElem?_cons_succ, List.getElem?_nil, List.set_cons_zero, List.set_cons_succ, List.set_nil, Nat.reduceAdd, Nat.reduceSub, Nat.reduceLT, Nat.reduceEqDiff, if_true, ite_true, if_false, ite_false, Option.map_some, Option.map_none, reduceIte, reduceCtorEq, Bool.false_eq_true, Nat.zero_add, Nat.add_zero, Nat.zero_lt_succ, Nat.zero_lt_one, Nat.lt_add_left_iff_pos, Nat.succ_eq_add_one, Nat.reduceLeDiff, i1, len_mk (show [c].length ≤ 1000 by simp), names_mk, in_mk]
  rfl
theorem is_between_b {k a b : Int} (s : List Int) : g_is_between [.int k, .int a, .int b] s = .ok (.bl (decide (a ≤ k) && decide (k ≤ b))) s := by
  refine fnR_rt ?_
  unfold c_is_between
  refine seq_ret (k := .v) ?_ nofun
  by_cases h : a ≤ k
  · simp only [fnR, runs, run, ev, evA, evT, evI, bindq_ok, ob_ok, sq_nx, sq_rt, onO_some, liftO_some, kd_some, dat_v, dat_t, tru_bl, intOf_int, noExq, stk_v, stk_t, stk_o, stow_tt, stow_fv, stow_ft, eqD_int, cmp_ne, cmp_eq, cmp_gt, cmp_ge, cmp_lt, cmp_le, cmp_in, cmp_notin, cmp_is, cmp_isnot, bin_add, bin_sub, b1_abs, ix0, ix1, items_lst, items_row, put, List.map_cons, List.map_nil, List.cons_append, List.nil_append, List.append_nil, List.length_cons, List.length_nil, List.replicate, List.getElem?_cons_zero, List.getElem?_cons_succ, List.getElem?_nil, List.set_cons_zero, List.set_cons_succ, List.set_nil, Nat.reduceAdd, Nat.reduceSub, Nat.reduceLT, Nat.reduceEqDiff, if_true, ite_true, if_false, ite_false, Option.map_some, Option.map_none, reduceIte, reduceCtorEq, Bool.false_eq_true, Nat.zero_add, Nat.add_zero, Nat.zero_lt_succ, Nat.zero_lt_one, Nat.lt_add_left_iff_pos, Nat.succ_eq_add_one, Nat.reduceLeDiff, isi_int', isi_bool', Bool.not_false, h, decide_true, Bool.true_and]
  · simp only [fnR, runs, run, ev, evA, evT, evI, bindq_ok, ob_ok, sq_nx, sq_rt, onO_some, liftO_some, kd_some, dat_v, dat_t, tru_bl, intOf_int, noExq, stk_v, stk_t, stk_o, stow_tt, stow_fv, stow_ft, eqD_int, cmp_ne, cmp_eq, cmp_gt, cmp_ge, cmp_lt, cmp_le, cmp_in, cmp_notin, cmp_is, cmp_isnot, bin_add, bin_sub, b1_abs, ix0, ix1, items_lst, items_row, put, List.map_cons, List.map_nil, List.cons_append, List.nil_append, List.append_nil, List.length_cons, List.length_nil, List.replicate, List.getElem?_cons_zero, List.getElem?_cons_succ, List.getElem?_nil, List.set_cons_zero, List.set_cons_succ, List.set_nil, Nat.reduceAdd, Nat.reduceSub, Nat.reduceLT, Nat.reduceEqDiff, if_true, ite_true, if_false, ite_false, Option.map_some, Option.map_none, reduceIte, reduceCtorEq, Bool.false_eq_true, Nat.zero_add, Nat.add_zero, Nat.zero_lt_succ, Nat.zero_lt_one, Nat.lt_add_left_iff_pos, Nat.succ_eq_add_one, Nat.reduceLeDiff, isi_int', isi_bool', Bool.not_false, h, decide_false, Bool.false_and]
def RT.gd : RT → Prop
  | .nm c => c < 128
  | .bi _ p q => p.gd ∧ q.gd
  | .pw p _ => p.gd
  | .un _ p => p.gd
  | _ => True
theorem rd_gd : ∀ (n : Nat) (l : List Nat), Mf.gd l → (rd n l).gd
  | 0, _, _ => trivial
  | n + 1, [], _ => trivial
  | n + 1, [c], h => by
    show (if decide (c ∈ nms) then RT.nm c else .nu (dgt c)).gd
    split
    · exact h c List.mem_cons_self
    · exact trivial
  | n + 1, c :: c2 :: cs, h => by
    rw [rd_two (l := c :: c2 :: cs) rfl (by simp)]
    split
    · exact ⟨rd_gd n _ (gd_sl h _ _), rd_gd n _ (gd_sl h _ _)⟩
    · split
      · exact rd_gd n _ (gd_sl h _ _)
      · exact rd_gd n _ (gd_sl h _ _)
theorem w_ok (o : Option B4) (s : List Int) (d : D) (k : Int) : (ev (S := List Int) (.cmp .eq (.var 2) (.con (.str "name"))) [.va d, .va (.int k), .va (.str (wN o))] s = .ok (.v, .bl false) s) ∧ (ev (S := List Int) (.cmp .eq (.var 2) (.con (.str "number"))) [.va d, .va (.int k), .va (.str (wN o))] s = .ok (.v, .bl false) s) ∧
    (ev (S := List Int) (.cmp .isin (.var 2) (.tup (.cons (.con (.str "root")) (.cons (.con (.str "wave")) .nil)))) [.va d, .va (.int k), .va (.str (wN o))] s = .ok (.v, .bl false) s) ∧ (ev (S := List Int) (.cmp .eq (.var 2) (.con (.str "power"))) [.va d, .va (.int k), .va (.str (wN o))] s = .ok (.v, .bl false) s) ∧
    (ev (S := List Int) (.cmp .isin (.var 2) (.tup (.cons (.con (.str "plus")) (.cons (.con (.str "minus")) (.cons (.con (.str "times")) (.cons (.con (.str "over")) .nil)))))) [.va d, .va (.int k), .va (.str (wN o))] s = .ok (.v, .bl o.isSome) s) := by
  cases o with
  | none => exact ⟨by kernel_rfl, by kernel_rfl, by kernel_rfl, by kernel_rfl, by kernel_rfl⟩
  | some o => cases o <;> exact ⟨by kernel_rfl, by kernel_rfl, by kernel_rfl, by kernel_rfl, by kernel_rfl⟩
theorem u_ok (r : Bool) (s : List Int) (d : D) (k : Int) : (ev (S := List Int) (.cmp .eq (.var 2) (.con (.str "name"))) [.va d, .va (.int k), .va (.str (uN r))] s = .ok (.v, .bl false) s) ∧ (ev (S := List Int) (.cmp .eq (.var 2) (.con (.str "number"))) [.va d, .va (.int k), .va (.str (uN r))] s = .ok (.v, .bl false) s) ∧
    (ev (S := List Int) (.cmp .isin (.var 2) (.tup (.cons (.con (.str "root")) (.cons (.con (.str "wave")) .nil)))) [.va d, .va (.int k), .va (.str (uN r))] s = .ok (.v, .bl true) s) := by
  cases r <;> exact ⟨by kernel_rfl, by kernel_rfl, by kernel_rfl⟩
abbrev cFirst : CE (List Int) := .or (.cmp .lt (.var 1) (.con (.int 1))) (.or (.not (.isi (.var 0) .tuple)) (.or (.not (.chn .le .le (.con (.int 2)) (.b1 .len (.var 0)) (.con (.int 3)))) (.one (.not (.isi (.ix (.var 0) (.con (.int 0))) .str)))))
theorem first_2 {x : Str} {a : D} {d : Int} (hd : 1 ≤ d) (s : List Int) : ev cFirst [.va (.tup [.str x, a]), .va (.int d), .no] s = .ok (.v, .bl false) s := by
  have h1 : decide (d < 1) = false := decide_eq_false (by omega)
  simp only [cFirst, fnR, runs, run, ev, evA, evT, evI, bindq_ok, ob_ok, sq_nx, sq_rt, onO_some, liftO_some, kd_some, dat_v, dat_t, tru_bl, intOf_int, noExq, stk_v, stk_t, stk_o, stow_tt, stow_fv, stow_ft, eqD_int, cmp_ne, cmp_eq, cmp_gt, cmp_ge, cmp_lt, cmp_le, cmp_in, cmp_notin, cmp_is, cmp_isnot, bin_add, bin_sub, b1_abs, ix0, ix1, items_lst, items_row, put, List.map_cons, List.map_nil, List.cons_append, List.nil_append, List.append_nil, List.length_cons, List.length_nil, List.replicate, List.getElem?_cons_zero, List.getElem?_cons_succ, List.getElem?_nil, List.set_cons_zero, List.set_cons_succ, List.set_nil, Nat.reduceAdd, Nat.reduceSub, Nat.reduceLT, Nat.reduceEqDiff, if_true, ite_true, if_false, ite_false, Option.map_some, Option.map_none, reduceIte, reduceCtorEq, Bool.false_eq_true, Nat.zero_add, Nat.add_zero, Nat.zero_lt_succ, Nat.zero_lt_one, Nat.lt_add_left_iff_pos, Nat.succ_eq_add_one, Nat.reduceLeDiff, h1]
  rfl
theorem first_3 {x : Str} {a b : D} {d : Int} (hd : 1 ≤ d) (s : List Int) : ev cFirst [.va (.tup [.str x, a, b]), .va (.int d), .no] s = .ok (.v, .bl false) s := by
  have h1 : decide (d < 1) = false := decide_eq_false (by omega)
  simp only [cFirst, fnR, runs, run, ev, evA, evT, evI, bindq_ok, ob_ok, sq_nx, sq_rt, onO_some, liftO_some, kd_some, dat_v, dat_t, tru_bl, intOf_int, noExq, stk_v, stk_t, stk_o, stow_tt, stow_fv, stow_ft, eqD_int, cmp_ne, cmp_eq, cmp_gt, cmp_ge, cmp_lt, cmp_le, cmp_in, cmp_notin, cmp_is, cmp_isnot, bin_add, bin_sub, b1_abs, ix0, ix1, items_lst, items_row, put, List.map_cons, List.map_nil, List.cons_append, List.nil_append, List.append_nil, List.length_cons, List.length_nil, List.replicate, List.getElem?_cons_zero, List.getElem?_cons_succ, List.getElem?_nil, List.set_cons_zero, List.set_cons_succ, List.set_nil, Nat.reduceAdd, Nat.reduceSub, Nat.reduceLT, Nat.reduceEqDiff, if_true, ite_true, if_false, ite_false, Option.map_some, Option.map_none, reduceIte, reduceCtorEq, Bool.false_eq_true, Nat.zero_add, Nat.add_zero, Nat.zero_lt_succ, Nat.zero_lt_one, Nat.lt_add_left_iff_pos, Nat.succ_eq_add_one, Nat.reduceLeDiff, h1]
  rfl
theorem first_0 {a : D} {d : Int} (hd : d < 1) (s : List Int) : ev cFirst [.va a, .va (.int d), .no] s = .ok (.v, .bl true) s := by
  have h1 : decide (d < 1) = true := decide_eq_true hd
  simp only [cFirst, fnR, runs, run, ev, evA, evT, evI, bindq_ok, ob_ok, sq_nx, sq_rt, onO_some, liftO_some, kd_some, dat_v, dat_t, tru_bl, intOf_int, noExq, stk_v, stk_t, stk_o, stow_tt, stow_fv, stow_ft, eqD_int, cmp_ne, cmp_eq, cmp_gt, cmp_ge, cmp_lt, cmp_le, cmp_in, cmp_notin, cmp_is, cmp_isnot, bin_add, bin_sub, b1_abs, ix0, ix1, items_lst, items_row, put, List.map_cons, List.map_nil, List.cons_append, List.nil_append, List.append_nil, List.length_cons, List.length_nil, List.replicate, List.getElem?_cons_zero, List.getElem?_cons_succ, List.getElem?_nil, List.set_cons_zero, List.set_cons_succ, List.set_nil, Nat.reduceAdd, Nat.reduceSub, Nat.reduceLT, Nat.reduceEqDiff, if_true, ite_true, if_false, ite_false, Option.map_some, Option.map_none, reduceIte, reduceCtorEq, Bool.false_eq_true, Nat.zero_add, Nat.add_zero, Nat.zero_lt_succ, Nat.zero_lt_one, Nat.lt_add_left_iff_pos, Nat.succ_eq_add_one, Nat.reduceLeDiff, h1]
theorem first_non {d : Int} (hd : 1 ≤ d) (s : List Int) : ev cFirst [.va .non, .va (.int d), .no] s = .ok (.v, .bl true) s := by
  have h1 : decide (d < 1) = false := decide_eq_false (by omega)
  simp only [cFirst, fnR, runs, run, ev, evA, evT, evI, bindq_ok, ob_ok, sq_nx, sq_rt, onO_some, liftO_some, kd_some, dat_v, dat_t, tru_bl, intOf_int, noExq, stk_v, stk_t, stk_o, stow_tt, stow_fv, stow_ft, eqD_int, cmp_ne, cmp_eq, cmp_gt, cmp_ge, cmp_lt, cmp_le, cmp_in, cmp_notin, cmp_is, cmp_isnot, bin_add, bin_sub, b1_abs, ix0, ix1, items_lst, items_row, put, List.map_cons, List.map_nil, List.cons_append, List.nil_append, List.append_nil, List.length_cons, List.length_nil, List.replicate, List.getElem?_cons_zero, List.getElem?_cons_succ, List.getElem?_nil, List.set_cons_zero, List.set_cons_succ, List.set_nil, Nat.reduceAdd, Nat.reduceSub, Nat.reduceLT, Nat.reduceEqDiff, if_true, ite_true, if_false, ite_false, Option.map_some, Option.map_none, reduceIte, reduceCtorEq, Bool.false_eq_true, Nat.zero_add, Nat.add_zero, Nat.zero_lt_succ, Nat.zero_lt_one, Nat.lt_add_left_iff_pos, Nat.succ_eq_add_one, Nat.reduceLeDiff, h1]
  rfl
theorem atmost_b (s : List Int) : ∀ (n d : Nat) (t : RT), d < n → t.gd → g_is_at_most n [t.D, .int (d : Int)] s = .ok (.bl (isF d t)) s
  | 0, d, t, h, _ => by omega
  | n + 1, 0, t, h, _ => by
    refine fnR_rt ?_
    show runs (c_is_at_most _) [.va t.D, .va (.int ((0 : Nat) : Int)), .no] s = _
    unfold c_is_at_most
    exact seq_ift (first_0 (by decide) s) (seq_ret (k := .v) (by simp only [fnR, runs, run, ev, evA, evT, evI, bindq_ok, ob_ok, sq_nx, sq_rt, onO_some, liftO_some, kd_some, dat_v, dat_t, tru_bl, intOf_int, noExq, stk_v, stk_t, stk_o, stow_tt, stow_fv, stow_ft, eqD_int, cmp_ne, cmp_eq, cmp_gt, cmp_ge, cmp_lt, cmp_le, cmp_in, cmp_notin, cmp_is, cmp_isnot, bin_add, bin_sub, b1_abs, ix0, ix1, items_lst, items_row, put, List.map_cons, List.map_nil, List.cons_append, List.nil_append, List.append_nil, List.length_cons, List.length_nil, List.replicate, List.getElem?_cons_zero, List.getElem?_cons_succ, List.getElem?_nil, List.set_cons_zero, List.set_cons_succ, List.set_nil, Nat.reduceAdd, Nat.reduceSub, Nat.reduceLT, Nat.reduceEqDiff, if_true, ite_true, if_false, ite_false, Option.map_some, Option.map_none, reduceIte, reduceCtorEq, Bool.false_eq_true, Nat.zero_add, Nat.add_zero, Nat.zero_lt_succ, Nat.zero_lt_one, Nat.lt_add_left_iff_pos, Nat.succ_eq_add_one, Nat.reduceLeDiff]; rfl) nofun)
  | n + 1, d + 1, .non, h, _ => by
    refine fnR_rt ?_
    show runs (c_is_at_most _) [.va .non, .va (.int ((d + 1 : Nat) : Int)), .no] s = _
    unfold c_is_at_most
    exact seq_ift (first_non (by omega) s) (seq_ret (k := .v) (by simp only [fnR, runs, run, ev, evA, evT, evI, bindq_ok, ob_ok, sq_nx, sq_rt, onO_some, liftO_some, kd_some, dat_v, dat_t, tru_bl, intOf_int, noExq, stk_v, stk_t, stk_o, stow_tt, stow_fv, stow_ft, eqD_int, cmp_ne, cmp_eq, cmp_gt, cmp_ge, cmp_lt, cmp_le, cmp_in, cmp_notin, cmp_is, cmp_isnot, bin_add, bin_sub, b1_abs, ix0, ix1, items_lst, items_row, put, List.map_cons, List.map_nil, List.cons_append, List.nil_append, List.append_nil, List.length_cons, List.length_nil, List.replicate, List.getElem?_cons_zero, List.getElem?_cons_succ, List.getElem?_nil, List.set_cons_zero, List.set_cons_succ, List.set_nil, Nat.reduceAdd, Nat.reduceSub, Nat.reduceLT, Nat.reduceEqDiff, if_true, ite_true, if_false, ite_false, Option.map_some, Option.map_none, reduceIte, reduceCtorEq, Bool.false_eq_true, Nat.zero_add, Nat.add_zero, Nat.zero_lt_succ, Nat.zero_lt_one, Nat.lt_add_left_iff_pos, Nat.succ_eq_add_one, Nat.reduceLeDiff]; rfl) nofun)
  | n + 1, d + 1, .nm c, h, hg => by
    refine fnR_rt ?_
    show runs (c_is_at_most _) [.va (RT.nm c).D, .va (.int ((d + 1 : Nat) : Int)), .no] s = _
    unfold c_is_at_most
    refine seq_iff (first_2 (by omega) s) ?_
    refine seq_asg (x := (.v, .str "name")) (ρ' := [.va (RT.nm c).D, .va (.int ((d + 1 : Nat) : Int)), .va (.str "name")]) (by rfl) rfl rfl ?_
    refine seq_ift (k3 := .v) (by kernel_rfl) ?_
    have i1 : ixD (RT.nm c).D (.int 1) = some (.str (mkS [c])) := rfl
    have l1 : b1D .len (RT.nm c).D = some (.v, .int 2) := rfl
    exact seq_ret (k := .v) (by simp only [fnR, runs, run, ev, evA, evT, evI, bindq_ok, ob_ok, sq_nx, sq_rt, onO_some, liftO_some, kd_some, dat_v, dat_t, tru_bl, intOf_int, noExq, stk_v, stk_t, stk_o, stow_tt, stow_fv, stow_ft, eqD_int, cmp_ne, cmp_eq, cmp_gt, cmp_ge, cmp_lt, cmp_le, cmp_in, cmp_notin, cmp_is, cmp_isnot, bin_add, bin_sub, b1_abs, ix0, ix1, items_lst, items_row, put, List.map_cons, List.map_nil, List.cons_append, List.nil_append, List.append_nil, List.length_cons, List.length_nil, List.replicate, List.getElem?_cons_zero, List.getElem?_cons_succ, List.getElem?_nil, List.set_cons_zero, List.set_cons_succ, List.set_nil, Nat.reduceAdd, Nat.reduceSub, Nat.reduceLT, Nat.reduceEqDiff, if_true, ite_true, if_false, ite_false, Option.map_some, Option.map_none, reduceIte, reduceCtorEq, Bool.false_eq_true, Nat.zero_add, Nat.add_zero, Nat.zero_lt_succ, Nat.zero_lt_one, Nat.lt_add_left_iff_pos, Nat.succ_eq_add_one, Nat.reduceLeDiff, i1, l1, decide_true, is_name_b hg]; rfl) nofun
  | n + 1, d + 1, .nu k, h, hg => by
    refine fnR_rt ?_
    show runs (c_is_at_most _) [.va (RT.nu k).D, .va (.int ((d + 1 : Nat) : Int)), .no] s = _
    unfold c_is_at_most
    refine seq_iff (first_2 (by omega) s) ?_
    refine seq_asg (x := (.v, .str "number")) (ρ' := [.va (RT.nu k).D, .va (.int ((d + 1 : Nat) : Int)), .va (.str "number")]) (by rfl) rfl rfl ?_
    refine seq_iff (k3 := .v) (by kernel_rfl) ?_
    refine seq_ift (k3 := .v) (by kernel_rfl) ?_
    have i1 : ixD (RT.nu k).D (.int 1) = some (.int k) := rfl
    have l1 : b1D .len (RT.nu k).D = some (.v, .int 2) := rfl
    exact seq_ret (k := .v) (by simp only [fnR, runs, run, ev, evA, evT, evI, bindq_ok, ob_ok, sq_nx, sq_rt, onO_some, liftO_some, kd_some, dat_v, dat_t, tru_bl, intOf_int, noExq, stk_v, stk_t, stk_o, stow_tt, stow_fv, stow_ft, eqD_int, cmp_ne, cmp_eq, cmp_gt, cmp_ge, cmp_lt, cmp_le, cmp_in, cmp_notin, cmp_is, cmp_isnot, bin_add, bin_sub, b1_abs, ix0, ix1, items_lst, items_row, put, List.map_cons, List.map_nil, List.cons_append, List.nil_append, List.append_nil, List.length_cons, List.length_nil, List.replicate, List.getElem?_cons_zero, List.getElem?_cons_succ, List.getElem?_nil, List.set_cons_zero, List.set_cons_succ, List.set_nil, Nat.reduceAdd, Nat.reduceSub, Nat.reduceLT, Nat.reduceEqDiff, if_true, ite_true, if_false, ite_false, Option.map_some, Option.map_none, reduceIte, reduceCtorEq, Bool.false_eq_true, Nat.zero_add, Nat.add_zero, Nat.zero_lt_succ, Nat.zero_lt_one, Nat.lt_add_left_iff_pos, Nat.succ_eq_add_one, Nat.reduceLeDiff, i1, l1, decide_true, is_between_b]; rfl) nofun
  | n + 1, d + 1, .un r p, h, hg => by
    have ih := atmost_b s n d p (by omega) hg
    have hd : ((d + 1 : Nat) : Int) - 1 = (d : Int) := by omega
    obtain ⟨w1, w2, w3⟩ := u_ok r s (RT.un r p).D ((d + 1 : Nat) : Int)
    refine fnR_rt ?_
    show runs (c_is_at_most _) [.va (RT.un r p).D, .va (.int ((d + 1 : Nat) : Int)), .no] s = _
    unfold c_is_at_most
    refine seq_iff (first_2 (by omega) s) ?_
    refine seq_asg (x := (.v, .str (uN r))) (ρ' := [.va (RT.un r p).D, .va (.int ((d + 1 : Nat) : Int)), .va (.str (uN r))]) (by rfl) rfl rfl ?_
    refine seq_iff w1 (seq_iff w2 (seq_ift w3 ?_))
    have i1 : ixD (RT.un r p).D (.int 1) = some p.D := rfl
    have l1 : b1D .len (RT.un r p).D = some (.v, .int 2) := rfl
    exact seq_ret (k := .v) (by simp only [fnR, runs, run, ev, evA, evT, evI, bindq_ok, ob_ok, sq_nx, sq_rt, onO_some, liftO_some, kd_some, dat_v, dat_t, tru_bl, intOf_int, noExq, stk_v, stk_t, stk_o, stow_tt, stow_fv, stow_ft, eqD_int, cmp_ne, cmp_eq, cmp_gt, cmp_ge, cmp_lt, cmp_le, cmp_in, cmp_notin, cmp_is, cmp_isnot, bin_add, bin_sub, b1_abs, ix0, ix1, items_lst, items_row, put, List.map_cons, List.map_nil, List.cons_append, List.nil_append, List.append_nil, List.length_cons, List.length_nil, List.replicate, List.getElem?_cons_zero, List.getElem?_cons_succ, List.getElem?_nil, List.set_cons_zero, List.set_cons_succ, List.set_nil, Nat.reduceAdd, Nat.reduceSub, Nat.reduceLT, Nat.reduceEqDiff, if_true, ite_true, if_false, ite_false, Option.map_some, Option.map_none, reduceIte, reduceCtorEq, Bool.false_eq_true, Nat.zero_add, Nat.add_zero, Nat.zero_lt_succ, Nat.zero_lt_one, Nat.lt_add_left_iff_pos, Nat.succ_eq_add_one, Nat.reduceLeDiff, i1, l1, decide_true, hd, ih]; rfl) nofun
  | n + 1, d + 1, .pw p k, h, hg => by
    have ih := atmost_b s n d p (by omega) hg
    have hd : ((d + 1 : Nat) : Int) - 1 = (d : Int) := by omega
    refine fnR_rt ?_
    show runs (c_is_at_most _) [.va (RT.pw p k).D, .va (.int ((d + 1 : Nat) : Int)), .no] s = .rt (.bl (isF d p && (decide (-3 ≤ k) && decide (k ≤ 3)))) s
    unfold c_is_at_most
    refine seq_iff (first_3 (by omega) s) ?_
    refine seq_asg (x := (.v, .str "power")) (ρ' := [.va (RT.pw p k).D, .va (.int ((d + 1 : Nat) : Int)), .va (.str "power")]) (by rfl) rfl rfl ?_
    refine seq_iff (k3 := .v) (by kernel_rfl) ?_
    refine seq_iff (k3 := .v) (by kernel_rfl) ?_
    refine seq_iff (k3 := .v) (by kernel_rfl) ?_
    have i1 : ixD (RT.pw p k).D (.int 1) = some p.D := rfl
    have i2 : ixD (RT.pw p k).D (.int 2) = some (.int k) := rfl
    have l1 : b1D .len (RT.pw p k).D = some (.v, .int 3) := rfl
    cases hp : isF d p with
    | false =>
      rw [hp] at ih
      exact seq_ift (k3 := .v) (by simp only [fnR, runs, run, ev, evA, evT, evI, bindq_ok, ob_ok, sq_nx, sq_rt, onO_some, liftO_some, kd_some, dat_v, dat_t, tru_bl, intOf_int, noExq, stk_v, stk_t, stk_o, stow_tt, stow_fv, stow_ft, eqD_int, cmp_ne, cmp_eq, cmp_gt, cmp_ge, cmp_lt, cmp_le, cmp_in, cmp_notin, cmp_is, cmp_isnot, bin_add, bin_sub, b1_abs, ix0, ix1, items_lst, items_row, put, List.map_cons, List.map_nil, List.cons_append, List.nil_append, List.append_nil, List.length_cons, List.length_nil, List.replicate, List.getElem?_cons_zero, List.getElem?_cons_succ, List.getElem?_nil, List.set_cons_zero, List.set_cons_succ, List.set_nil, Nat.reduceAdd, Nat.reduceSub, Nat.reduceLT, Nat.reduceEqDiff, if_true, ite_true, if_false, ite_false, Option.map_some, Option.map_none, reduceIte, reduceCtorEq, Bool.false_eq_true, Nat.zero_add, Nat.add_zero, Nat.zero_lt_succ, Nat.zero_lt_one, Nat.lt_add_left_iff_pos, Nat.succ_eq_add_one, Nat.reduceLeDiff, i1, l1, decide_true, hd, ih, Bool.not_true, Bool.not_false]) (seq_ret (k := .v) (by simp only [fnR, runs, run, ev, evA, evT, evI, bindq_ok, ob_ok, sq_nx, sq_rt, onO_some, liftO_some, kd_some, dat_v, dat_t, tru_bl, intOf_int, noExq, stk_v, stk_t, stk_o, stow_tt, stow_fv, stow_ft, eqD_int, cmp_ne, cmp_eq, cmp_gt, cmp_ge, cmp_lt, cmp_le, cmp_in, cmp_notin, cmp_is, cmp_isnot, bin_add, bin_sub, b1_abs, ix0, ix1, items_lst, items_row, put, List.map_cons, List.map_nil, List.cons_append, List.nil_append, List.append_nil, List.length_cons, List.length_nil, List.replicate, List.getElem?_cons_zero, List.getElem?_cons_succ, List.getElem?_nil, List.set_cons_zero, List.set_cons_succ, List.set_nil, Nat.reduceAdd, Nat.reduceSub, Nat.reduceLT, Nat.reduceEqDiff, if_true, ite_true, if_false, ite_false, Option.map_some, Option.map_none, reduceIte, reduceCtorEq, Bool.false_eq_true, Nat.zero_add, Nat.add_zero, Nat.zero_lt_succ, Nat.zero_lt_one, Nat.lt_add_left_iff_pos, Nat.succ_eq_add_one, Nat.reduceLeDiff]; rfl) nofun)
    | true =>
      rw [hp] at ih
      refine seq_iff (k3 := .v) (by simp only [fnR, runs, run, ev, evA, evT, evI, bindq_ok, ob_ok, sq_nx, sq_rt, onO_some, liftO_some, kd_some, dat_v, dat_t, tru_bl, intOf_int, noExq, stk_v, stk_t, stk_o, stow_tt, stow_fv, stow_ft, eqD_int, cmp_ne, cmp_eq, cmp_gt, cmp_ge, cmp_lt, cmp_le, cmp_in, cmp_notin, cmp_is, cmp_isnot, bin_add, bin_sub, b1_abs, ix0, ix1, items_lst, items_row, put, List.map_cons, List.map_nil, List.cons_append, List.nil_append, List.append_nil, List.length_cons, List.length_nil, List.replicate, List.getElem?_cons_zero, List.getElem?_cons_succ, List.getElem?_nil, List.set_cons_zero, List.set_cons_succ, List.set_nil, Nat.reduceAdd, Nat.reduceSub, Nat.reduceLT, Nat.reduceEqDiff, if_true, ite_true, if_false, ite_false, Option.map_some, Option.map_none, reduceIte, reduceCtorEq, Bool.false_eq_true, Nat.zero_add, Nat.add_zero, Nat.zero_lt_succ, Nat.zero_lt_one, Nat.lt_add_left_iff_pos, Nat.succ_eq_add_one, Nat.reduceLeDiff, i1, l1, decide_true, hd, ih, Bool.not_true, Bool.not_false]) ?_
      refine seq_ift (k3 := .v) (by kernel_rfl) ?_
      exact seq_ret (k := .v) (by simp only [fnR, runs, run, ev, evA, evT, evI, bindq_ok, ob_ok, sq_nx, sq_rt, onO_some, liftO_some, kd_some, dat_v, dat_t, tru_bl, intOf_int, noExq, stk_v, stk_t, stk_o, stow_tt, stow_fv, stow_ft, eqD_int, cmp_ne, cmp_eq, cmp_gt, cmp_ge, cmp_lt, cmp_le, cmp_in, cmp_notin, cmp_is, cmp_isnot, bin_add, bin_sub, b1_abs, ix0, ix1, items_lst, items_row, put, List.map_cons, List.map_nil, List.cons_append, List.nil_append, List.append_nil, List.length_cons, List.length_nil, List.replicate, List.getElem?_cons_zero, List.getElem?_cons_succ, List.getElem?_nil, List.set_cons_zero, List.set_cons_succ, List.set_nil, Nat.reduceAdd, Nat.reduceSub, Nat.reduceLT, Nat.reduceEqDiff, if_true, ite_true, if_false, ite_false, Option.map_some, Option.map_none, reduceIte, reduceCtorEq, Bool.false_eq_true, Nat.zero_add, Nat.add_zero, Nat.zero_lt_succ, Nat.zero_lt_one, Nat.lt_add_left_iff_pos, Nat.succ_eq_add_one, Nat.reduceLeDiff, i2, is_between_b, Bool.true_and]) nofun
  | n + 1, d + 1, .bi o p q, h, hg => by
    have ihp := atmost_b s n d p (by omega) hg.1
    have ihq := atmost_b s n d q (by omega) hg.2
    have hd : ((d + 1 : Nat) : Int) - 1 = (d : Int) := by omega
    obtain ⟨w1, w2, w3, w4, w5⟩ := w_ok o s (RT.bi o p q).D ((d + 1 : Nat) : Int)
    refine fnR_rt ?_
    show runs (c_is_at_most _) [.va (RT.bi o p q).D, .va (.int ((d + 1 : Nat) : Int)), .no] s = .rt (.bl (isF d p && (o.isSome && isF d q))) s
    unfold c_is_at_most
    refine seq_iff (first_3 (by omega) s) ?_
    refine seq_asg (x := (.v, .str (wN o))) (ρ' := [.va (RT.bi o p q).D, .va (.int ((d + 1 : Nat) : Int)), .va (.str (wN o))]) (by rfl) rfl rfl ?_
    refine seq_iff w1 (seq_iff w2 (seq_iff w3 ?_))
    have i1 : ixD (RT.bi o p q).D (.int 1) = some p.D := rfl
    have i2 : ixD (RT.bi o p q).D (.int 2) = some q.D := rfl
    have l1 : b1D .len (RT.bi o p q).D = some (.v, .int 3) := rfl
    cases hp : isF d p with
    | false =>
      rw [hp] at ihp
      exact seq_ift (k3 := .v) (by simp only [fnR, runs, run, ev, evA, evT, evI, bindq_ok, ob_ok, sq_nx, sq_rt, onO_some, liftO_some, kd_some, dat_v, dat_t, tru_bl, intOf_int, noExq, stk_v, stk_t, stk_o, stow_tt, stow_fv, stow_ft, eqD_int, cmp_ne, cmp_eq, cmp_gt, cmp_ge, cmp_lt, cmp_le, cmp_in, cmp_notin, cmp_is, cmp_isnot, bin_add, bin_sub, b1_abs, ix0, ix1, items_lst, items_row, put, List.map_cons, List.map_nil, List.cons_append, List.nil_append, List.append_nil, List.length_cons, List.length_nil, List.replicate, List.getElem?_cons_zero, List.getElem?_cons_succ, List.getElem?_nil, List.set_cons_zero, List.set_cons_succ, List.set_nil, Nat.reduceAdd, Nat.reduceSub, Nat.reduceLT, Nat.reduceEqDiff, if_true, ite_true, if_false, ite_false, Option.map_some, Option.map_none, reduceIte, reduceCtorEq, Bool.false_eq_true, Nat.zero_add, Nat.add_zero, Nat.zero_lt_succ, Nat.zero_lt_one, Nat.lt_add_left_iff_pos, Nat.succ_eq_add_one, Nat.reduceLeDiff, i1, l1, decide_true, hd, ihp, Bool.not_true, Bool.not_false]) (seq_ret (k := .v) (by simp only [fnR, runs, run, ev, evA, evT, evI, bindq_ok, ob_ok, sq_nx, sq_rt, onO_some, liftO_some, kd_some, dat_v, dat_t, tru_bl, intOf_int, noExq, stk_v, stk_t, stk_o, stow_tt, stow_fv, stow_ft, eqD_int, cmp_ne, cmp_eq, cmp_gt, cmp_ge, cmp_lt, cmp_le, cmp_in, cmp_notin, cmp_is, cmp_isnot, bin_add, bin_sub, b1_abs, ix0, ix1, items_lst, items_row, put, List.map_cons, List.map_nil, List.cons_append, List.nil_append, List.append_nil, List.length_cons, List.length_nil, List.replicate, List.getElem?_cons_zero, List.getElem?_cons_succ, List.getElem?_nil, List.set_cons_zero, List.set_cons_succ, List.set_nil, Nat.reduceAdd, Nat.reduceSub, Nat.reduceLT, Nat.reduceEqDiff, if_true, ite_true, if_false, ite_false, Option.map_some, Option.map_none, reduceIte, reduceCtorEq, Bool.false_eq_true, Nat.zero_add, Nat.add_zero, Nat.zero_lt_succ, Nat.zero_lt_one, Nat.lt_add_left_iff_pos, Nat.succ_eq_add_one, Nat.reduceLeDiff]; rfl) nofun)
    | true =>
      rw [hp] at ihp
      refine seq_iff (k3 := .v) (by simp only [fnR, runs, run, ev, evA, evT, evI, bindq_ok, ob_ok, sq_nx, sq_rt, onO_some, liftO_some, kd_some, dat_v, dat_t, tru_bl, intOf_int, noExq, stk_v, stk_t, stk_o, stow_tt, stow_fv, stow_ft, eqD_int, cmp_ne, cmp_eq, cmp_gt, cmp_ge, cmp_lt, cmp_le, cmp_in, cmp_notin, cmp_is, cmp_isnot, bin_add, bin_sub, b1_abs, ix0, ix1, items_lst, items_row, put, List.map_cons, List.map_nil, List.cons_append, List.nil_append, List.append_nil, List.length_cons, List.length_nil, List.replicate, List.getElem?_cons_zero, List.getElem?_cons_succ, List.getElem?_nil, List.set_cons_zero, List.set_cons_succ, List.set_nil, Nat.reduceAdd, Nat.reduceSub, Nat.reduceLT, Nat.reduceEqDiff, if_true, ite_true, if_false, ite_false, Option.map_some, Option.map_none, reduceIte, reduceCtorEq, Bool.false_eq_true, Nat.zero_add, Nat.add_zero, Nat.zero_lt_succ, Nat.zero_lt_one, Nat.lt_add_left_iff_pos, Nat.succ_eq_add_one, Nat.reduceLeDiff, i1, l1, decide_true, hd, ihp, Bool.not_true, Bool.not_false]) ?_
      refine seq_iff w4 ?_
      refine seq_ret (k := .v) ?_ nofun
      rw [ev, w5]
      cases o with
      | none => simp only [fnR, runs, run, ev, evA, evT, evI, bindq_ok, ob_ok, sq_nx, sq_rt, onO_some, liftO_some, kd_some, dat_v, dat_t, tru_bl, intOf_int, noExq, stk_v, stk_t, stk_o, stow_tt, stow_fv, stow_ft, eqD_int, cmp_ne, cmp_eq, cmp_gt, cmp_ge, cmp_lt, cmp_le, cmp_in, cmp_notin, cmp_is, cmp_isnot, bin_add, bin_sub, b1_abs, ix0, ix1, items_lst, items_row, put, List.map_cons, List.map_nil, List.cons_append, List.nil_append, List.append_nil, List.length_cons, List.length_nil, List.replicate, List.getElem?_cons_zero, List.getElem?_cons_succ, List.getElem?_nil, List.set_cons_zero, List.set_cons_succ, List.set_nil, Nat.reduceAdd, Nat.reduceSub, Nat.reduceLT, Nat.reduceEqDiff, if_true, ite_true, if_false, ite_false, Option.map_some, Option.map_none, reduceIte, reduceCtorEq, Bool.false_eq_true, Nat.zero_add, Nat.add_zero, Nat.zero_lt_succ, Nat.zero_lt_one, Nat.lt_add_left_iff_pos, Nat.succ_eq_add_one, Nat.reduceLeDiff, Option.isSome_none, Bool.true_and, Bool.false_and]
      | some o => simp only [fnR, runs, run, ev, evA, evT, evI, bindq_ok, ob_ok, sq_nx, sq_rt, onO_some, liftO_some, kd_some, dat_v, dat_t, tru_bl, intOf_int, noExq, stk_v, stk_t, stk_o, stow_tt, stow_fv, stow_ft, eqD_int, cmp_ne, cmp_eq, cmp_gt, cmp_ge, cmp_lt, cmp_le, cmp_in, cmp_notin, cmp_is, cmp_isnot, bin_add, bin_sub, b1_abs, ix0, ix1, items_lst, items_row, put, List.map_cons, List.map_nil, List.cons_append, List.nil_append, List.append_nil, List.length_cons, List.length_nil, List.replicate, List.getElem?_cons_zero, List.getElem?_cons_succ, List.getElem?_nil, List.set_cons_zero, List.set_cons_succ, List.set_nil, Nat.reduceAdd, Nat.reduceSub, Nat.reduceLT, Nat.reduceEqDiff, if_true, ite_true, if_false, ite_false, Option.map_some, Option.map_none, reduceIte, reduceCtorEq, Bool.false_eq_true, Nat.zero_add, Nat.add_zero, Nat.zero_lt_succ, Nat.zero_lt_one, Nat.lt_add_left_iff_pos, Nat.succ_eq_add_one, Nat.reduceLeDiff, Option.isSome_some, i2, hd, ihq, Bool.true_and]
theorem is_formula_b {t : RT} (h : t.gd) (s : List Int) : g_is_formula [t.D] s = .ok (.bl (isF 4 t)) s := by
  refine fnR_rt ?_
  show runs c_is_formula [.va t.D] s = _
  unfold c_is_formula
  have ih := atmost_b s 6 4 t (by decide) h
  exact seq_ret (k := .v) (by simp only [fnR, runs, run, ev, evA, evT, evI, bindq_ok, ob_ok, sq_nx, sq_rt, onO_some, liftO_some, kd_some, dat_v, dat_t, tru_bl, intOf_int, noExq, stk_v, stk_t, stk_o, stow_tt, stow_fv, stow_ft, eqD_int, cmp_ne, cmp_eq, cmp_gt, cmp_ge, cmp_lt, cmp_le, cmp_in, cmp_notin, cmp_is, cmp_isnot, bin_add, bin_sub, b1_abs, ix0, ix1, items_lst, items_row, put, List.map_cons, List.map_nil, List.cons_append, List.nil_append, List.append_nil, List.length_cons, List.length_nil, List.replicate, List.getElem?_cons_zero, List.getElem?_cons_succ, List.getElem?_nil, List.set_cons_zero, List.set_cons_succ, List.set_nil, Nat.reduceAdd, Nat.reduceSub, Nat.reduceLT, Nat.reduceEqDiff, if_true, ite_true, if_false, ite_false, Option.map_some, Option.map_none, reduceIte, reduceCtorEq, Bool.false_eq_true, Nat.zero_add, Nat.add_zero, Nat.zero_lt_succ, Nat.zero_lt_one, Nat.lt_add_left_iff_pos, Nat.succ_eq_add_one, Nat.reduceLeDiff]; rw [show (4 : Int) = ((4 : Nat) : Int) from rfl, ih]; rfl) nofun
end Mf
set_option Elab.async false
set_option linter.all false
set_option maxRecDepth 100000
set_option maxHeartbeats 1000000
namespace Mf
open PySem L2
section
variable {S : Type} {s s1 : S} {x : Str}
theorem fnR_ex {n : Nat} {body : CSs S} {ds : List D} (h : runs body (ds.map SV.va ++ List.replicate (n - ds.length) .no) s = .ex x s1) : fnR n body ds s = .ex x s1 := by
  unfold fnR
  rw [h]
theorem seq_ex {c : CS S} {cs : CSs S} {ρ : List SV} (h : run c ρ s = .ex x s1) : runs (.cons c cs) ρ s = .ex x s1 := by
  rw [runs_cons, h]
  rfl
theorem run_ret_ex {e : CE S} {ρ : List SV} (h : ev e ρ s = .ex x s1) : run (.ret e) ρ s = .ex x s1 := by
  rw [run, h]
  rfl
theorem seq_ifx {t : CE S} {a b cs : CSs S} {ρ : List SV} {k3 : K3} (h : ev t ρ s = .ok (k3, .bl true) s) (h2 : runs a ρ s = .ex x s1) : runs (.cons (.ife t a b) cs) ρ s = .ex x s1 := by
  rw [runs_cons, run_ifq h rfl, if_pos rfl, h2]
  rfl
theorem run_try_ok {i j k : Nat} {e : CE S} {ρ ρ' : List SV} {a : K3 × D} {v : SV} (hp : ρ.all notOw = true) (h : ev e ρ s = .ok a s1) (hv : stow false a = some v) (hq : put ρ i v = some ρ') : run (.tryc i j k e) ρ s = .nx ρ' s1 := by
  rw [run, if_pos hp, h]
  show onO (stow false a) _ = _
  rw [hv, onO_some, hq, onO_some]
theorem run_try_ex {i j k : Nat} {e : CE S} {ρ : List SV} (hp : ρ.all notOw = true) (h : ev e ρ s = .ex x s1) (hx : (excNames.contains x && decide (j < ρ.length) && decide (k < ρ.length) && decide (j ≠ k)) = true) : run (.tryc i j k e) ρ s = .nx ((List.replicate ρ.length .no).set j (.va (.exn x))) s1 := by
  rw [run, if_pos hp, h]
  show (if _ then _ else _) = _
  rw [if_pos hx]
end
def cOut (g : Sem (List Int)) : CSs (List Int) :=
  (.cons (.asg false 2 (.con (.non)))
  (.cons (.asg false 3 (.con (.non)))
  (.cons (.tryc 3 2 4 (.call "_law_call" 2 g (.cons (.var 0) (.cons (.var 1) .nil))))
  (.cons (.ife (.cmp .is (.var 2) (.con (.non))) (.cons (.ret (.tup (.cons (.con (.str "returned")) (.cons (.var 3) .nil))))
   .nil) .nil)
  (.cons (.ret (.tup (.cons (.con (.str "raised")) (.cons (.call "_law_name" 1 g__law_name (.cons (.var 2) .nil)) .nil))))
  .nil)))))
theorem out_ok {g : Sem (List Int)} {a b d : D} {s s1 : List Int} (h : g [a, b] s = .ok d s1) : fnR 5 (cOut g) [a, b] s = .ok (.tup [.str "returned", d]) s1 := by
  refine fnR_rt ?_
  show runs (cOut g) [.va a, .va b, .no, .no, .no] s = _
  unfold cOut
  refine seq_asg (x := (.v, .non)) (ρ' := [.va a, .va b, .va .non, .no, .no]) (by rfl) rfl rfl ?_
  refine seq_asg (x := (.v, .non)) (ρ' := [.va a, .va b, .va .non, .va .non, .no]) (by rfl) rfl rfl ?_
  refine seq_nx (run_try_ok (a := (.v, d)) (v := .va d) (ρ' := [.va a, .va b, .va .non, .va d, .no]) (s1 := s1) rfl (by simp only [fnR, runs, run, ev, evA, evT, evI, bindq_ok, ob_ok, sq_nx, sq_rt, onO_some, liftO_some, kd_some, dat_v, dat_t, tru_bl, intOf_int, noExq, stk_v, stk_t, stk_o, stow_tt, stow_fv, stow_ft, eqD_int, cmp_ne, cmp_eq, cmp_gt, cmp_ge, cmp_lt, cmp_le, cmp_in, cmp_notin, cmp_is, cmp_isnot, bin_add, bin_sub, b1_abs, ix0, ix1, items_lst, items_row, put, List.map_cons, List.map_nil, List.cons_append, List.nil_append, List.append_nil, List.length_cons, List.length_nil, List.replicate, List.getElem?_cons_zero, List.getElem?_cons_succ, List.getElem?_nil, List.set_cons_zero, List.set_cons_succ, List.set_nil, Nat.reduceAdd, Nat.reduceSub, Nat.reduceLT, Nat.reduceEqDiff, if_true, ite_true, if_false, ite_false, Option.map_some, Option.map_none, reduceIte, reduceCtorEq, Bool.false_eq_true, Nat.zero_add, Nat.add_zero, Nat.zero_lt_succ, Nat.zero_lt_one, Nat.lt_add_left_iff_pos, Nat.succ_eq_add_one, Nat.reduceLeDiff, h]) rfl rfl) ?_
  refine seq_ift (k3 := .v) (by rfl) ?_
  exact seq_ret (k := .v) (by simp only [fnR, runs, run, ev, evA, evT, evI, bindq_ok, ob_ok, sq_nx, sq_rt, onO_some, liftO_some, kd_some, dat_v, dat_t, tru_bl, intOf_int, noExq, stk_v, stk_t, stk_o, stow_tt, stow_fv, stow_ft, eqD_int, cmp_ne, cmp_eq, cmp_gt, cmp_ge, cmp_lt, cmp_le, cmp_in, cmp_notin, cmp_is, cmp_isnot, bin_add, bin_sub, b1_abs, ix0, ix1, items_lst, items_row, put, List.map_cons, List.map_nil, List.cons_append, List.nil_append, List.append_nil, List.length_cons, List.length_nil, List.replicate, List.getElem?_cons_zero, List.getElem?_cons_succ, List.getElem?_nil, List.set_cons_zero, List.set_cons_succ, List.set_nil, Nat.reduceAdd, Nat.reduceSub, Nat.reduceLT, Nat.reduceEqDiff, if_true, ite_true, if_false, ite_false, Option.map_some, Option.map_none, reduceIte, reduceCtorEq, Bool.false_eq_true, Nat.zero_add, Nat.add_zero, Nat.zero_lt_succ, Nat.zero_lt_one, Nat.lt_add_left_iff_pos, Nat.succ_eq_add_one, Nat.reduceLeDiff, lenOk_of (show 2 ≤ 1000000 by decide)]) nofun
theorem out_ex {g : Sem (List Int)} {a b : D} {x : Str} {k : Int} {s s1 : List Int} (h : g [a, b] s = .ex x s1) (hx : excNames.contains x = true) (hn : g__law_name [.exn x] s1 = .ok (.int k) s1) : fnR 5 (cOut g) [a, b] s = .ok (.tup [.str "raised", .int k]) s1 := by
  refine fnR_rt ?_
  show runs (cOut g) [.va a, .va b, .no, .no, .no] s = _
  unfold cOut
  refine seq_asg (x := (.v, .non)) (ρ' := [.va a, .va b, .va .non, .no, .no]) (by rfl) rfl rfl ?_
  refine seq_asg (x := (.v, .non)) (ρ' := [.va a, .va b, .va .non, .va .non, .no]) (by rfl) rfl rfl ?_
  have he : ev (S := List Int) (.call "_law_call" 2 g (.cons (.var 0) (.cons (.var 1) .nil))) [.va a, .va b, .va .non, .va .non, .no] s = .ex x s1 := by
    simp only [fnR, runs, run, ev, evA, evT, evI, bindq_ok, ob_ok, sq_nx, sq_rt, onO_some, liftO_some, kd_some, dat_v, dat_t, tru_bl, intOf_int, noExq, stk_v, stk_t, stk_o, stow_tt, stow_fv, stow_ft, eqD_int, cmp_ne, cmp_eq, cmp_gt, cmp_ge, cmp_lt, cmp_le, cmp_in, cmp_notin, cmp_is, cmp_isnot, bin_add, bin_sub, b1_abs, ix0, ix1, items_lst, items_row, put, List.map_cons, List.map_nil, List.cons_append, List.nil_append, List.append_nil, List.length_cons, List.length_nil, List.replicate, List.getElem?_cons_zero, List.getElem?_cons_succ, List.getElem?_nil, List.set_cons_zero, List.set_cons_succ, List.set_nil, Nat.reduceAdd, Nat.reduceSub, Nat.reduceLT, Nat.reduceEqDiff, if_true, ite_true, if_false, ite_false, Option.map_some, Option.map_none, reduceIte, reduceCtorEq, Bool.false_eq_true, Nat.zero_add, Nat.add_zero, Nat.zero_lt_succ, Nat.zero_lt_one, Nat.lt_add_left_iff_pos, Nat.succ_eq_add_one, Nat.reduceLeDiff, h]
    rfl
  refine seq_nx (run_try_ex rfl he (by rw [hx]; rfl)) ?_
  show runs _ [.no, .no, .va (.exn x), .no, .no] s1 = _
  refine seq_iff (k3 := .v) (by rfl) ?_
  exact seq_ret (k := .v) (by simp only [fnR, runs, run, ev, evA, evT, evI, bindq_ok, ob_ok, sq_nx, sq_rt, onO_some, liftO_some, kd_some, dat_v, dat_t, tru_bl, intOf_int, noExq, stk_v, stk_t, stk_o, stow_tt, stow_fv, stow_ft, eqD_int, cmp_ne, cmp_eq, cmp_gt, cmp_ge, cmp_lt, cmp_le, cmp_in, cmp_notin, cmp_is, cmp_isnot, bin_add, bin_sub, b1_abs, ix0, ix1, items_lst, items_row, put, List.map_cons, List.map_nil, List.cons_append, List.nil_append, List.append_nil, List.length_cons, List.length_nil, List.replicate, List.getElem?_cons_zero, List.getElem?_cons_succ, List.getElem?_nil, List.set_cons_zero, List.set_cons_succ, List.set_nil, Nat.reduceAdd, Nat.reduceSub, Nat.reduceLT, Nat.reduceEqDiff, if_true, ite_true, if_false, ite_false, Option.map_some, Option.map_none, reduceIte, reduceCtorEq, Bool.false_eq_true, Nat.zero_add, Nat.add_zero, Nat.zero_lt_succ, Nat.zero_lt_one, Nat.lt_add_left_iff_pos, Nat.succ_eq_add_one, Nat.reduceLeDiff, hn, lenOk_of (show 2 ≤ 1000000 by decide)]) nofun
mutual
theorem deq_refl : ∀ (n : Nat) (d : D), d.sh n = true → deq d d = true
  | _, .non, _ => rfl
  | _, .bl b, _ => by unfold deq; simp
  | _, .int i, _ => by unfold deq; simp
  | _, .str x, _ => by unfold deq; simp
  | n + 1, .tup ds, h => by unfold deq; exact deqs_refl n ds h
  | n + 1, .lst ds, h => by unfold deq; exact deqs_refl n ds h
  | 0, .tup _, h => by cases h
  | 0, .lst _, h => by cases h
  | n, .dct _, h => by rw [sh_dct] at h; cases h
  | n, .adr _, h => by rw [sh_adr] at h; cases h
  | n, .scr _, h => by rw [sh_scr] at h; cases h
  | n, .exn _, h => by rw [sh_exn] at h; cases h
theorem deqs_refl : ∀ (n : Nat) (ds : List D), shs n ds = true → deqs ds ds = true
  | _, [], _ => by unfold deqs; rfl
  | n, d :: ds, h => by
    have q := Bool.and_eq_true_iff.mp h
    unfold deqs
    rw [deq_refl n d q.1, deqs_refl n ds q.2]
    rfl
end
theorem eqD_refl {d : D} (h : d.sh 60 = true) : eqD d d = some true := by
  unfold eqD
  rw [h, deq_refl 60 d h]
  rfl
end Mf
set_option Elab.async false
set_option linter.all false
set_option maxRecDepth 100000
set_option maxHeartbeats 4000000
namespace Mf
open PySem L2
section
variable {ρ : List SV} {s : List Int} {k3 k4 : K3} {a b e : CE (List Int)} {es : CA (List Int)} {x y acc : List Nat}
theorem ev_add (ha : ev a ρ s = .ok (k3, .str (mkS x)) s) (hb : ev b ρ s = .ok (k4, .str (mkS y)) s) (hl : x.length + y.length ≤ 1000) : ev (.bin .add a b) ρ s = .ok (.v, .str (mkS (x ++ y))) s := by
  rw [ev, ha]
  show (ev b ρ s).bind _ = _
  rw [hb]
  show liftO s (if lenOk ((mkS x).length + (mkS y).length) then some ((.v, .str (mkS x ++ mkS y)) : K3 × D) else none) = _
  rw [mkS_len, mkS_len, if_pos (lenOk_of (by omega)), mkS_app]
  rfl
theorem evJ_cons (h : ev e ρ s = .ok (k3, .str (mkS y)) s) (hl : acc.length + y.length ≤ 1000) : evJ (.cons e es) (mkS acc) ρ s = evJ es (mkS (acc ++ y)) ρ s := by
  rw [evJ, h]
  show (if lenOk (mkS acc ++ mkS y).length then evJ es (mkS acc ++ mkS y) ρ s else .er) = _
  rw [mkS_app, mkS_len, if_pos (lenOk_of (by rw [List.length_append]; omega))]
theorem evJ_nil : evJ (S := List Int) .nil (mkS acc) ρ s = .ok (.v, .str (mkS acc)) s := by rw [evJ]
theorem ev_fst (h : evJ es (mkS []) ρ s = .ok (.v, .str (mkS x)) s) : ev (.fst es) ρ s = .ok (.v, .str (mkS x)) s := by
  rw [ev]
  exact h
theorem str_mk (h : x.length ≤ 1000) : strD (.str (mkS x)) = some (.str (mkS x)) := by
  show (if lenOk (mkS x).length then some (D.str (mkS x)) else none) = _
  rw [mkS_len, if_pos (lenOk_of (by omega))]
theorem ev_stx {f : Bool} {d d' : D} (h : ev e ρ s = .ok (k3, d) s) (hd : strD d = some d') : ev (.stx f e) ρ s = .ok (.v, d') s := by
  rw [ev, h]
  show kd s (strD d) = _
  rw [hd]
  rfl
end
theorem str_nu {k : Int} (h1 : 1 ≤ k) (h2 : k ≤ 9) : strD (.int k) = some (.str (mkS [48 + k.natAbs])) := by
  have : k = 1 ∨ k = 2 ∨ k = 3 ∨ k = 4 ∨ k = 5 ∨ k = 6 ∨ k = 7 ∨ k = 8 ∨ k = 9 := by omega
  rcases this with rfl | rfl | rfl | rfl | rfl | rfl | rfl | rfl | rfl <;> kernel_rfl
theorem str_nuT {k : Int} (h1 : -3 ≤ k) (h2 : k ≤ 3) : strD (.int k) = some (.str (mkS (nuT k))) := by
  have : k = -3 ∨ k = -2 ∨ k = -1 ∨ k = 0 ∨ k = 1 ∨ k = 2 ∨ k = 3 := by omega
  rcases this with rfl | rfl | rfl | rfl | rfl | rfl | rfl <;> kernel_rfl
theorem tx_256 {f : Fm} (h : f.dep ≤ 6) : (tx f).length ≤ 250 := by
  have h1 := tx_len f
  have h2 : 2 ^ f.dep ≤ 2 ^ 6 := Nat.pow_le_pow_right (by omega) h
  omega
theorem t91 : ("[" : Str) = mkS [91] := rfl
theorem t93 : ("]" : Str) = mkS [93] := rfl
theorem t9394 : ("]^" : Str) = mkS [93, 94] := rfl
theorem t40 : ("(" : Str) = mkS [40] := rfl
theorem t41 : (")" : Str) = mkS [41] := rfl
theorem signs_ok (o : B4) : tabD t_SIGNS (.str o.w) = some (.str (mkS [o.c])) := by cases o <;> kernel_rfl
theorem text_of_ok (s : List Int) : ∀ (n : Nat) (f : Fm), f.ok → f.dep ≤ n → f.dep ≤ 6 → g_text_of n [f.D] s = .ok (.str (mkS (tx f))) s
  | 0, f, _, h, _ => by have := f.dep_pos; omega
  | n + 1, .nm i, ok, h, h6 => by
    refine fnR_rt ?_
    show runs (c_text_of _) [.va (Fm.nm i).D, .no, .no] s = _
    unfold c_text_of
    refine seq_asg (x := (.v, .str "name")) (ρ' := [.va (Fm.nm i).D, .va (.str "name"), .no]) (by rfl) rfl rfl ?_
    refine seq_ift (k3 := .v) (by kernel_rfl) ?_
    exact seq_ret (k := .v) (ev_stx (k3 := .v) (d := .str (mkS [97 + i])) (by rfl) (str_mk (by simp))) nofun
  | n + 1, .nu k, ok, h, h6 => by
    refine fnR_rt ?_
    show runs (c_text_of _) [.va (Fm.nu k).D, .no, .no] s = _
    unfold c_text_of
    refine seq_asg (x := (.v, .str "number")) (ρ' := [.va (Fm.nu k).D, .va (.str "number"), .no]) (by rfl) rfl rfl ?_
    refine seq_ift (k3 := .v) (by kernel_rfl) ?_
    exact seq_ret (k := .v) (ev_stx (k3 := .v) (d := .int k) (by rfl) (str_nu ok.1 ok.2)) nofun
  | n + 1, .pw p k, ok, h, h6 => by
    have h : p.dep + 1 ≤ n + 1 := h
    have h6 : p.dep + 1 ≤ 6 := h6
    have ih := text_of_ok s n p ok.1 (by omega) (by omega)
    have hl := tx_256 (f := p) (by omega)
    have hn := nuT_len k
    refine fnR_rt ?_
    show runs (c_text_of _) [.va (Fm.pw p k).D, .no, .no] s = _
    unfold c_text_of
    refine seq_asg (x := (.v, .str "power")) (ρ' := [.va (Fm.pw p k).D, .va (.str "power"), .no]) (by rfl) rfl rfl ?_
    refine seq_iff (k3 := .v) (by kernel_rfl) ?_
    have i1 : ixD (Fm.pw p k).D (.int 1) = some p.D := rfl
    refine seq_asg (x := (.v, .str (mkS (tx p)))) (ρ' := [.va (Fm.pw p k).D, .va (.str "power"), .va (.str (mkS (tx p)))]) (by simp only [fnR, runs, run, ev, evA, evT, evI, bindq_ok, ob_ok, sq_nx, sq_rt, onO_some, liftO_some, kd_some, dat_v, dat_t, tru_bl, intOf_int, noExq, stk_v, stk_t, stk_o, stow_tt, stow_fv, stow_ft, eqD_int, cmp_ne, cmp_eq, cmp_gt, cmp_ge, cmp_lt, cmp_le, cmp_in, cmp_notin, cmp_is, cmp_isnot, bin_add, bin_sub, b1_abs, ix0, ix1, items_lst, items_row, put, List.map_cons, List.map_nil, List.cons_append, List.nil_append, List.append_nil, List.length_cons, List.length_nil, List.replicate, List.getElem?_cons_zero, List.getElem?_cons_succ, List.getElem?_nil, List.set_cons_zero, List.set_cons_succ, List.set_nil, Nat.reduceAdd, Nat.reduceSub, Nat.reduceLT, Nat.reduceEqDiff, if_true, ite_true, if_false, ite_false, Option.map_some, Option.map_none, reduceIte, reduceCtorEq, Bool.false_eq_true, Nat.zero_add, Nat.add_zero, Nat.zero_lt_succ, Nat.zero_lt_one, Nat.lt_add_left_iff_pos, Nat.succ_eq_add_one, Nat.reduceLeDiff, i1, ih]) rfl rfl ?_
    refine seq_ift (k3 := .v) (by kernel_rfl) ?_
    refine seq_ret (k := .v) ?_ nofun
    refine ev_fst ?_
    refine (evJ_cons (k3 := .v) (y := [91]) (by rw [ev, t91]) (by simp)).trans ?_
    refine (evJ_cons (k3 := .v) (y := tx p) (ev_stx (k3 := .v) (d := .str (mkS (tx p))) (by rfl) (str_mk (by omega))) (by simp; omega)).trans ?_
    refine (evJ_cons (k3 := .v) (y := [93, 94]) (by rw [ev, t9394]) (by simp; omega)).trans ?_
    refine (evJ_cons (k3 := .v) (y := nuT k) (ev_stx (k3 := .v) (d := .int k) (by rfl) (str_nuT ok.2.1 ok.2.2)) (by simp; omega)).trans ?_
    rw [evJ_nil]
    simp [tx]
  | n + 1, .rt p, ok, h, h6 => by
    have h : p.dep + 1 ≤ n + 1 := h
    have h6 : p.dep + 1 ≤ 6 := h6
    have ih := text_of_ok s n p ok (by omega) (by omega)
    have hl := tx_256 (f := p) (by omega)
    refine fnR_rt ?_
    show runs (c_text_of _) [.va (Fm.rt p).D, .no, .no] s = _
    unfold c_text_of
    refine seq_asg (x := (.v, .str "root")) (ρ' := [.va (Fm.rt p).D, .va (.str "root"), .no]) (by rfl) rfl rfl ?_
    refine seq_iff (k3 := .v) (by kernel_rfl) ?_
    have i1 : ixD (Fm.rt p).D (.int 1) = some p.D := rfl
    refine seq_asg (x := (.v, .str (mkS (tx p)))) (ρ' := [.va (Fm.rt p).D, .va (.str "root"), .va (.str (mkS (tx p)))]) (by simp only [fnR, runs, run, ev, evA, evT, evI, bindq_ok, ob_ok, sq_nx, sq_rt, onO_some, liftO_some, kd_some, dat_v, dat_t, tru_bl, intOf_int, noExq, stk_v, stk_t, stk_o, stow_tt, stow_fv, stow_ft, eqD_int, cmp_ne, cmp_eq, cmp_gt, cmp_ge, cmp_lt, cmp_le, cmp_in, cmp_notin, cmp_is, cmp_isnot, bin_add, bin_sub, b1_abs, ix0, ix1, items_lst, items_row, put, List.map_cons, List.map_nil, List.cons_append, List.nil_append, List.append_nil, List.length_cons, List.length_nil, List.replicate, List.getElem?_cons_zero, List.getElem?_cons_succ, List.getElem?_nil, List.set_cons_zero, List.set_cons_succ, List.set_nil, Nat.reduceAdd, Nat.reduceSub, Nat.reduceLT, Nat.reduceEqDiff, if_true, ite_true, if_false, ite_false, Option.map_some, Option.map_none, reduceIte, reduceCtorEq, Bool.false_eq_true, Nat.zero_add, Nat.add_zero, Nat.zero_lt_succ, Nat.zero_lt_one, Nat.lt_add_left_iff_pos, Nat.succ_eq_add_one, Nat.reduceLeDiff, i1, ih]) rfl rfl ?_
    refine seq_iff (k3 := .v) (by kernel_rfl) ?_
    refine seq_ift (k3 := .v) (by kernel_rfl) ?_
    refine seq_ret (k := .v) ?_ nofun
    have q : ev (S := List Int) (.fst (.cons (.con (.str "[")) (.cons (.stx true (.var 2)) (.cons (.con (.str "]")) .nil)))) [.va (Fm.rt p).D, .va (.str "root"), .va (.str (mkS (tx p)))] s = .ok (.v, .str (mkS ([91] ++ (tx p ++ [93])))) s := by
      refine ev_fst ?_
      refine (evJ_cons (k3 := .v) (y := [91]) (by rw [ev, t91]) (by simp)).trans ?_
      refine (evJ_cons (k3 := .v) (y := tx p) (ev_stx (k3 := .v) (d := .str (mkS (tx p))) (by rfl) (str_mk (by omega))) (by simp; omega)).trans ?_
      refine (evJ_cons (k3 := .v) (y := [93]) (by rw [ev, t93]) (by simp; omega)).trans ?_
      rw [evJ_nil]
      simp
    exact ev_add (x := [115, 113, 114, 116]) (k3 := .v) (by kernel_rfl) q (by simp; omega)
  | n + 1, .wv p, ok, h, h6 => by
    have h : p.dep + 1 ≤ n + 1 := h
    have h6 : p.dep + 1 ≤ 6 := h6
    have ih := text_of_ok s n p ok (by omega) (by omega)
    have hl := tx_256 (f := p) (by omega)
    refine fnR_rt ?_
    show runs (c_text_of _) [.va (Fm.wv p).D, .no, .no] s = _
    unfold c_text_of
    refine seq_asg (x := (.v, .str "wave")) (ρ' := [.va (Fm.wv p).D, .va (.str "wave"), .no]) (by rfl) rfl rfl ?_
    refine seq_iff (k3 := .v) (by kernel_rfl) ?_
    have i1 : ixD (Fm.wv p).D (.int 1) = some p.D := rfl
    refine seq_asg (x := (.v, .str (mkS (tx p)))) (ρ' := [.va (Fm.wv p).D, .va (.str "wave"), .va (.str (mkS (tx p)))]) (by simp only [fnR, runs, run, ev, evA, evT, evI, bindq_ok, ob_ok, sq_nx, sq_rt, onO_some, liftO_some, kd_some, dat_v, dat_t, tru_bl, intOf_int, noExq, stk_v, stk_t, stk_o, stow_tt, stow_fv, stow_ft, eqD_int, cmp_ne, cmp_eq, cmp_gt, cmp_ge, cmp_lt, cmp_le, cmp_in, cmp_notin, cmp_is, cmp_isnot, bin_add, bin_sub, b1_abs, ix0, ix1, items_lst, items_row, put, List.map_cons, List.map_nil, List.cons_append, List.nil_append, List.append_nil, List.length_cons, List.length_nil, List.replicate, List.getElem?_cons_zero, List.getElem?_cons_succ, List.getElem?_nil, List.set_cons_zero, List.set_cons_succ, List.set_nil, Nat.reduceAdd, Nat.reduceSub, Nat.reduceLT, Nat.reduceEqDiff, if_true, ite_true, if_false, ite_false, Option.map_some, Option.map_none, reduceIte, reduceCtorEq, Bool.false_eq_true, Nat.zero_add, Nat.add_zero, Nat.zero_lt_succ, Nat.zero_lt_one, Nat.lt_add_left_iff_pos, Nat.succ_eq_add_one, Nat.reduceLeDiff, i1, ih]) rfl rfl ?_
    refine seq_iff (k3 := .v) (by kernel_rfl) ?_
    refine seq_ift (k3 := .v) (by kernel_rfl) ?_
    refine seq_ret (k := .v) ?_ nofun
    have q : ev (S := List Int) (.fst (.cons (.con (.str "[")) (.cons (.stx true (.var 2)) (.cons (.con (.str "]")) .nil)))) [.va (Fm.wv p).D, .va (.str "wave"), .va (.str (mkS (tx p)))] s = .ok (.v, .str (mkS ([91] ++ (tx p ++ [93])))) s := by
      refine ev_fst ?_
      refine (evJ_cons (k3 := .v) (y := [91]) (by rw [ev, t91]) (by simp)).trans ?_
      refine (evJ_cons (k3 := .v) (y := tx p) (ev_stx (k3 := .v) (d := .str (mkS (tx p))) (by rfl) (str_mk (by omega))) (by simp; omega)).trans ?_
      refine (evJ_cons (k3 := .v) (y := [93]) (by rw [ev, t93]) (by simp; omega)).trans ?_
      rw [evJ_nil]
      simp
    exact ev_add (x := [119, 97, 118, 101]) (k3 := .v) (by kernel_rfl) q (by simp; omega)
  | n + 1, .bi o p q, ok, h, h6 => by
    have h : max p.dep q.dep + 1 ≤ n + 1 := h
    have h6 : max p.dep q.dep + 1 ≤ 6 := h6
    have ihp := text_of_ok s n p ok.1 (by omega) (by omega)
    have ihq := text_of_ok s n q ok.2 (by omega) (by omega)
    have hl := tx_256 (f := p) (by omega)
    have hl2 := tx_256 (f := q) (by omega)
    refine fnR_rt ?_
    show runs (c_text_of _) [.va (Fm.bi o p q).D, .no, .no] s = _
    unfold c_text_of
    refine seq_asg (x := (.v, .str o.w)) (ρ' := [.va (Fm.bi o p q).D, .va (.str o.w), .no]) (by rfl) rfl rfl ?_
    refine seq_iff (k3 := .v) (by cases o <;> kernel_rfl) ?_
    have i1 : ixD (Fm.bi o p q).D (.int 1) = some p.D := rfl
    have i2 : ixD (Fm.bi o p q).D (.int 2) = some q.D := rfl
    refine seq_asg (x := (.v, .str (mkS (tx p)))) (ρ' := [.va (Fm.bi o p q).D, .va (.str o.w), .va (.str (mkS (tx p)))]) (by simp only [fnR, runs, run, ev, evA, evT, evI, bindq_ok, ob_ok, sq_nx, sq_rt, onO_some, liftO_some, kd_some, dat_v, dat_t, tru_bl, intOf_int, noExq, stk_v, stk_t, stk_o, stow_tt, stow_fv, stow_ft, eqD_int, cmp_ne, cmp_eq, cmp_gt, cmp_ge, cmp_lt, cmp_le, cmp_in, cmp_notin, cmp_is, cmp_isnot, bin_add, bin_sub, b1_abs, ix0, ix1, items_lst, items_row, put, List.map_cons, List.map_nil, List.cons_append, List.nil_append, List.append_nil, List.length_cons, List.length_nil, List.replicate, List.getElem?_cons_zero, List.getElem?_cons_succ, List.getElem?_nil, List.set_cons_zero, List.set_cons_succ, List.set_nil, Nat.reduceAdd, Nat.reduceSub, Nat.reduceLT, Nat.reduceEqDiff, if_true, ite_true, if_false, ite_false, Option.map_some, Option.map_none, reduceIte, reduceCtorEq, Bool.false_eq_true, Nat.zero_add, Nat.add_zero, Nat.zero_lt_succ, Nat.zero_lt_one, Nat.lt_add_left_iff_pos, Nat.succ_eq_add_one, Nat.reduceLeDiff, i1, ihp]) rfl rfl ?_
    refine seq_iff (k3 := .v) (by cases o <;> kernel_rfl) ?_
    refine seq_iff (k3 := .v) (by cases o <;> kernel_rfl) ?_
    refine seq_ret (k := .v) ?_ nofun
    refine ev_fst ?_
    refine (evJ_cons (k3 := .v) (y := [40]) (by rw [ev, t40]) (by simp)).trans ?_
    refine (evJ_cons (k3 := .v) (y := tx p) (ev_stx (k3 := .v) (d := .str (mkS (tx p))) (by rfl) (str_mk (by omega))) (by simp; omega)).trans ?_
    refine (evJ_cons (k3 := .v) (y := [32]) (by rw [ev, str4]) (by simp; omega)).trans ?_
    refine (evJ_cons (k3 := .v) (y := [o.c]) (ev_stx (k3 := .v) (d := .str (mkS [o.c])) (by simp only [fnR, runs, run, ev, evA, evT, evI, bindq_ok, ob_ok, sq_nx, sq_rt, onO_some, liftO_some, kd_some, dat_v, dat_t, tru_bl, intOf_int, noExq, stk_v, stk_t, stk_o, stow_tt, stow_fv, stow_ft, eqD_int, cmp_ne, cmp_eq, cmp_gt, cmp_ge, cmp_lt, cmp_le, cmp_in, cmp_notin, cmp_is, cmp_isnot, bin_add, bin_sub, b1_abs, ix0, ix1, items_lst, items_row, put, List.map_cons, List.map_nil, List.cons_append, List.nil_append, List.append_nil, List.length_cons, List.length_nil, List.replicate, List.getElem?_cons_zero, List.getElem?_cons_succ, List.getElem?_nil, List.set_cons_zero, List.set_cons_succ, List.set_nil, Nat.reduceAdd, Nat.reduceSub, Nat.reduceLT, Nat.reduceEqDiff, if_true, ite_true, if_false, ite_false, Option.map_some, Option.map_none, reduceIte, reduceCtorEq, Bool.false_eq_true, Nat.zero_add, Nat.add_zero, Nat.zero_lt_succ, Nat.zero_lt_one, Nat.lt_add_left_iff_pos, Nat.succ_eq_add_one, Nat.reduceLeDiff, signs_ok]) (str_mk (by simp))) (by simp; omega)).trans ?_
    refine (evJ_cons (k3 := .v) (y := [32]) (by rw [ev, str4]) (by simp; omega)).trans ?_
    refine (evJ_cons (k3 := .v) (y := tx q) (ev_stx (k3 := .v) (d := .str (mkS (tx q))) (by simp only [fnR, runs, run, ev, evA, evT, evI, bindq_ok, ob_ok, sq_nx, sq_rt, onO_some, liftO_some, kd_some, dat_v, dat_t, tru_bl, intOf_int, noExq, stk_v, stk_t, stk_o, stow_tt, stow_fv, stow_ft, eqD_int, cmp_ne, cmp_eq, cmp_gt, cmp_ge, cmp_lt, cmp_le, cmp_in, cmp_notin, cmp_is, cmp_isnot, bin_add, bin_sub, b1_abs, ix0, ix1, items_lst, items_row, put, List.map_cons, List.map_nil, List.cons_append, List.nil_append, List.append_nil, List.length_cons, List.length_nil, List.replicate, List.getElem?_cons_zero, List.getElem?_cons_succ, List.getElem?_nil, List.set_cons_zero, List.set_cons_succ, List.set_nil, Nat.reduceAdd, Nat.reduceSub, Nat.reduceLT, Nat.reduceEqDiff, if_true, ite_true, if_false, ite_false, Option.map_some, Option.map_none, reduceIte, reduceCtorEq, Bool.false_eq_true, Nat.zero_add, Nat.add_zero, Nat.zero_lt_succ, Nat.zero_lt_one, Nat.lt_add_left_iff_pos, Nat.succ_eq_add_one, Nat.reduceLeDiff, i2, ihq]) (str_mk (by omega))) (by simp; omega)).trans ?_
    refine (evJ_cons (k3 := .v) (y := [41]) (by rw [ev, t41]) (by simp; omega)).trans ?_
    rw [evJ_nil]
    simp [tx]
theorem dl1 (o : B4) : tabD (dictD (tabS [("plus", " + "), ("minus", " - "), ("times", " * "), ("over", " / ")])) (.str o.w) = some (.str (mkS [32, o.c, 32])) := by cases o <;> kernel_rfl
theorem line_ok (s : List Int) : ∀ (n : Nat) (f : Fm), f.ok → f.dep ≤ n → f.dep ≤ 6 → g__law_line n [f.D] s = .ok (.str (mkS (tx f))) s
  | 0, f, _, h, _ => by have := f.dep_pos; omega
  | n + 1, .nm i, ok, h, h6 => by
    refine fnR_rt ?_
    show runs (c__law_line _) [.va (Fm.nm i).D, .no, .no] s = _
    unfold c__law_line
    refine seq_asg (x := (.v, .str "name")) (ρ' := [.va (Fm.nm i).D, .va (.str "name"), .no]) (by rfl) rfl rfl ?_
    refine seq_ift (k3 := .v) (by kernel_rfl) ?_
    exact seq_ret (k := .v) (ev_stx (k3 := .v) (d := .str (mkS [97 + i])) (by rfl) (str_mk (by simp))) nofun
  | n + 1, .nu k, ok, h, h6 => by
    refine fnR_rt ?_
    show runs (c__law_line _) [.va (Fm.nu k).D, .no, .no] s = _
    unfold c__law_line
    refine seq_asg (x := (.v, .str "number")) (ρ' := [.va (Fm.nu k).D, .va (.str "number"), .no]) (by rfl) rfl rfl ?_
    refine seq_ift (k3 := .v) (by kernel_rfl) ?_
    exact seq_ret (k := .v) (ev_stx (k3 := .v) (d := .int k) (by rfl) (str_nu ok.1 ok.2)) nofun
  | n + 1, .pw p k, ok, h, h6 => by
    have h : p.dep + 1 ≤ n + 1 := h
    have h6 : p.dep + 1 ≤ 6 := h6
    have ih := line_ok s n p ok.1 (by omega) (by omega)
    have hl := tx_256 (f := p) (by omega)
    have hn := nuT_len k
    refine fnR_rt ?_
    show runs (c__law_line _) [.va (Fm.pw p k).D, .no, .no] s = _
    unfold c__law_line
    refine seq_asg (x := (.v, .str "power")) (ρ' := [.va (Fm.pw p k).D, .va (.str "power"), .no]) (by rfl) rfl rfl ?_
    refine seq_iff (k3 := .v) (by kernel_rfl) ?_
    have i1 : ixD (Fm.pw p k).D (.int 1) = some p.D := rfl
    refine seq_ift (k3 := .v) (by kernel_rfl) ?_
    have q := ev_add (k3 := .v) (k4 := .v) (s := s) (ρ := [.va (Fm.pw p k).D, .va (.str "power"), .no]) (x := ([91] ++ tx p) ++ [93, 94]) (y := nuT k)
      (ev_add (k3 := .v) (k4 := .v) (x := [91] ++ tx p) (y := [93, 94]) (b := .con (.str "]^")) (ev_add (k3 := .v) (k4 := .v) (x := [91]) (y := tx p) (a := .con (.str "[")) (b := .call "_law_line" 1 (g__law_line n) (.cons (.ix (.var 0) (.con (.int 1))) .nil)) (by rw [ev, t91]) (by simp only [fnR, runs, run, ev, evA, evT, evI, bindq_ok, ob_ok, sq_nx, sq_rt, onO_some, liftO_some, kd_some, dat_v, dat_t, tru_bl, intOf_int, noExq, stk_v, stk_t, stk_o, stow_tt, stow_fv, stow_ft, eqD_int, cmp_ne, cmp_eq, cmp_gt, cmp_ge, cmp_lt, cmp_le, cmp_in, cmp_notin, cmp_is, cmp_isnot, bin_add, bin_sub, b1_abs, ix0, ix1, items_lst, items_row, put, List.map_cons, List.map_nil, List.cons_append, List.nil_append, List.append_nil, List.length_cons, List.length_nil, List.replicate, List.getElem?_cons_zero, List.getElem?_cons_succ, List.getElem?_nil, List.set_cons_zero, List.set_cons_succ, List.set_nil, Nat.reduceAdd, Nat.reduceSub, Nat.reduceLT, Nat.reduceEqDiff, if_true, ite_true, if_false, ite_false, Option.map_some, Option.map_none, reduceIte, reduceCtorEq, Bool.false_eq_true, Nat.zero_add, Nat.add_zero, Nat.zero_lt_succ, Nat.zero_lt_one, Nat.lt_add_left_iff_pos, Nat.succ_eq_add_one, Nat.reduceLeDiff, i1, ih]) (by simp; omega)) (by rw [ev, t9394]) (by simp; omega))
      (ev_stx (f := false) (e := .ix (.var 0) (.con (.int 2))) (k3 := .v) (d := .int k) (by rfl) (str_nuT ok.2.1 ok.2.2)) (by simp; omega)
    refine seq_ret (k := .v) (q.trans ?_) nofun
    simp [tx]
  | n + 1, .rt p, ok, h, h6 => by
    have h : p.dep + 1 ≤ n + 1 := h
    have h6 : p.dep + 1 ≤ 6 := h6
    have ih := line_ok s n p ok (by omega) (by omega)
    have hl := tx_256 (f := p) (by omega)
    refine fnR_rt ?_
    show runs (c__law_line _) [.va (Fm.rt p).D, .no, .no] s = _
    unfold c__law_line
    refine seq_asg (x := (.v, .str "root")) (ρ' := [.va (Fm.rt p).D, .va (.str "root"), .no]) (by rfl) rfl rfl ?_
    refine seq_iff (k3 := .v) (by kernel_rfl) ?_
    refine seq_iff (k3 := .v) (by kernel_rfl) ?_
    have i1 : ixD (Fm.rt p).D (.int 1) = some p.D := rfl
    refine seq_ift (k3 := .v) (by kernel_rfl) ?_
    have q := ev_add (k3 := .v) (k4 := .v) (s := s) (ρ := [.va (Fm.rt p).D, .va (.str "root"), .no]) (x := [115, 113, 114, 116, 91] ++ tx p) (y := [93]) (b := .con (.str "]"))
      (ev_add (k3 := .v) (k4 := .v) (x := [115, 113, 114, 116, 91]) (y := tx p) (a := .dlt [("root", "sqrt["), ("wave", "wave[")] (.var 1)) (b := .call "_law_line" 1 (g__law_line n) (.cons (.ix (.var 0) (.con (.int 1))) .nil)) (by kernel_rfl) (by simp only [fnR, runs, run, ev, evA, evT, evI, bindq_ok, ob_ok, sq_nx, sq_rt, onO_some, liftO_some, kd_some, dat_v, dat_t, tru_bl, intOf_int, noExq, stk_v, stk_t, stk_o, stow_tt, stow_fv, stow_ft, eqD_int, cmp_ne, cmp_eq, cmp_gt, cmp_ge, cmp_lt, cmp_le, cmp_in, cmp_notin, cmp_is, cmp_isnot, bin_add, bin_sub, b1_abs, ix0, ix1, items_lst, items_row, put, List.map_cons, List.map_nil, List.cons_append, List.nil_append, List.append_nil, List.length_cons, List.length_nil, List.replicate, List.getElem?_cons_zero, List.getElem?_cons_succ, List.getElem?_nil, List.set_cons_zero, List.set_cons_succ, List.set_nil, Nat.reduceAdd, Nat.reduceSub, Nat.reduceLT, Nat.reduceEqDiff, if_true, ite_true, if_false, ite_false, Option.map_some, Option.map_none, reduceIte, reduceCtorEq, Bool.false_eq_true, Nat.zero_add, Nat.add_zero, Nat.zero_lt_succ, Nat.zero_lt_one, Nat.lt_add_left_iff_pos, Nat.succ_eq_add_one, Nat.reduceLeDiff, i1, ih]) (by simp; omega)) (by rw [ev, t93]) (by simp; omega)
    refine seq_ret (k := .v) (q.trans ?_) nofun
    simp [tx]
  | n + 1, .wv p, ok, h, h6 => by
    have h : p.dep + 1 ≤ n + 1 := h
    have h6 : p.dep + 1 ≤ 6 := h6
    have ih := line_ok s n p ok (by omega) (by omega)
    have hl := tx_256 (f := p) (by omega)
    refine fnR_rt ?_
    show runs (c__law_line _) [.va (Fm.wv p).D, .no, .no] s = _
    unfold c__law_line
    refine seq_asg (x := (.v, .str "wave")) (ρ' := [.va (Fm.wv p).D, .va (.str "wave"), .no]) (by rfl) rfl rfl ?_
    refine seq_iff (k3 := .v) (by kernel_rfl) ?_
    refine seq_iff (k3 := .v) (by kernel_rfl) ?_
    have i1 : ixD (Fm.wv p).D (.int 1) = some p.D := rfl
    refine seq_ift (k3 := .v) (by kernel_rfl) ?_
    have q := ev_add (k3 := .v) (k4 := .v) (s := s) (ρ := [.va (Fm.wv p).D, .va (.str "wave"), .no]) (x := [119, 97, 118, 101, 91] ++ tx p) (y := [93]) (b := .con (.str "]"))
      (ev_add (k3 := .v) (k4 := .v) (x := [119, 97, 118, 101, 91]) (y := tx p) (a := .dlt [("root", "sqrt["), ("wave", "wave[")] (.var 1)) (b := .call "_law_line" 1 (g__law_line n) (.cons (.ix (.var 0) (.con (.int 1))) .nil)) (by kernel_rfl) (by simp only [fnR, runs, run, ev, evA, evT, evI, bindq_ok, ob_ok, sq_nx, sq_rt, onO_some, liftO_some, kd_some, dat_v, dat_t, tru_bl, intOf_int, noExq, stk_v, stk_t, stk_o, stow_tt, stow_fv, stow_ft, eqD_int, cmp_ne, cmp_eq, cmp_gt, cmp_ge, cmp_lt, cmp_le, cmp_in, cmp_notin, cmp_is, cmp_isnot, bin_add, bin_sub, b1_abs, ix0, ix1, items_lst, items_row, put, List.map_cons, List.map_nil, List.cons_append, List.nil_append, List.append_nil, List.length_cons, List.length_nil, List.replicate, List.getElem?_cons_zero, List.getElem?_cons_succ, List.getElem?_nil, List.set_cons_zero, List.set_cons_succ, List.set_nil, Nat.reduceAdd, Nat.reduceSub, Nat.reduceLT, Nat.reduceEqDiff, if_true, ite_true, if_false, ite_false, Option.map_some, Option.map_none, reduceIte, reduceCtorEq, Bool.false_eq_true, Nat.zero_add, Nat.add_zero, Nat.zero_lt_succ, Nat.zero_lt_one, Nat.lt_add_left_iff_pos, Nat.succ_eq_add_one, Nat.reduceLeDiff, i1, ih]) (by simp; omega)) (by rw [ev, t93]) (by simp; omega)
    refine seq_ret (k := .v) (q.trans ?_) nofun
    simp [tx]
  | n + 1, .bi o p q, ok, h, h6 => by
    have h : max p.dep q.dep + 1 ≤ n + 1 := h
    have h6 : max p.dep q.dep + 1 ≤ 6 := h6
    have ihp := line_ok s n p ok.1 (by omega) (by omega)
    have ihq := line_ok s n q ok.2 (by omega) (by omega)
    have hl := tx_256 (f := p) (by omega)
    have hl2 := tx_256 (f := q) (by omega)
    refine fnR_rt ?_
    show runs (c__law_line _) [.va (Fm.bi o p q).D, .no, .no] s = _
    unfold c__law_line
    refine seq_asg (x := (.v, .str o.w)) (ρ' := [.va (Fm.bi o p q).D, .va (.str o.w), .no]) (by rfl) rfl rfl ?_
    refine seq_iff (k3 := .v) (by cases o <;> kernel_rfl) ?_
    refine seq_iff (k3 := .v) (by cases o <;> kernel_rfl) ?_
    refine seq_iff (k3 := .v) (by cases o <;> kernel_rfl) ?_
    have i1 : ixD (Fm.bi o p q).D (.int 1) = some p.D := rfl
    have i2 : ixD (Fm.bi o p q).D (.int 2) = some q.D := rfl
    refine seq_asg (x := (.v, .str (mkS [32, o.c, 32]))) (ρ' := [.va (Fm.bi o p q).D, .va (.str o.w), .va (.str (mkS [32, o.c, 32]))]) (by simp only [fnR, runs, run, ev, evA, evT, evI, bindq_ok, ob_ok, sq_nx, sq_rt, onO_some, liftO_some, kd_some, dat_v, dat_t, tru_bl, intOf_int, noExq, stk_v, stk_t, stk_o, stow_tt, stow_fv, stow_ft, eqD_int, cmp_ne, cmp_eq, cmp_gt, cmp_ge, cmp_lt, cmp_le, cmp_in, cmp_notin, cmp_is, cmp_isnot, bin_add, bin_sub, b1_abs, ix0, ix1, items_lst, items_row, put, List.map_cons, List.map_nil, List.cons_append, List.nil_append, List.append_nil, List.length_cons, List.length_nil, List.replicate, List.getElem?_cons_zero, List.getElem?_cons_succ, List.getElem?_nil, List.set_cons_zero, List.set_cons_succ, List.set_nil, Nat.reduceAdd, Nat.reduceSub, Nat.reduceLT, Nat.reduceEqDiff, if_true, ite_true, if_false, ite_false, Option.map_some, Option.map_none, reduceIte, reduceCtorEq, Bool.false_eq_true, Nat.zero_add, Nat.add_zero, Nat.zero_lt_succ, Nat.zero_lt_one, Nat.lt_add_left_iff_pos, Nat.succ_eq_add_one, Nat.reduceLeDiff, dl1]) rfl rfl ?_
    have w := ev_add (k3 := .v) (k4 := .v) (s := s) (ρ := [.va (Fm.bi o p q).D, .va (.str o.w), .va (.str (mkS [32, o.c, 32]))]) (x := (([40] ++ tx p) ++ [32, o.c, 32]) ++ tx q) (y := [41]) (b := .con (.str ")"))
      (ev_add (k3 := .v) (k4 := .v) (x := ([40] ++ tx p) ++ [32, o.c, 32]) (y := tx q) (b := .call "_law_line" 1 (g__law_line n) (.cons (.ix (.var 0) (.con (.int 2))) .nil))
        (ev_add (k3 := .v) (k4 := .v) (x := [40] ++ tx p) (y := [32, o.c, 32]) (b := .var 2)
          (ev_add (k3 := .v) (k4 := .v) (x := [40]) (y := tx p) (a := .con (.str "(")) (b := .call "_law_line" 1 (g__law_line n) (.cons (.ix (.var 0) (.con (.int 1))) .nil)) (by rw [ev, t40]) (by simp only [fnR, runs, run, ev, evA, evT, evI, bindq_ok, ob_ok, sq_nx, sq_rt, onO_some, liftO_some, kd_some, dat_v, dat_t, tru_bl, intOf_int, noExq, stk_v, stk_t, stk_o, stow_tt, stow_fv, stow_ft, eqD_int, cmp_ne, cmp_eq, cmp_gt, cmp_ge, cmp_lt, cmp_le, cmp_in, cmp_notin, cmp_is, cmp_isnot, bin_add, bin_sub, b1_abs, ix0, ix1, items_lst, items_row, put, List.map_cons, List.map_nil, List.cons_append, List.nil_append, List.append_nil, List.length_cons, List.length_nil, List.replicate, List.getElem?_cons_zero, List.getElem?_cons_succ, List.getElem?_nil, List.set_cons_zero, List.set_cons_succ, List.set_nil, Nat.reduceAdd, Nat.reduceSub, Nat.reduceLT, Nat.reduceEqDiff, if_true, ite_true, if_false, ite_false, Option.map_some, Option.map_none, reduceIte, reduceCtorEq, Bool.false_eq_true, Nat.zero_add, Nat.add_zero, Nat.zero_lt_succ, Nat.zero_lt_one, Nat.lt_add_left_iff_pos, Nat.succ_eq_add_one, Nat.reduceLeDiff, i1, ihp]) (by simp; omega)) (by rfl) (by simp; omega))
        (by simp only [fnR, runs, run, ev, evA, evT, evI, bindq_ok, ob_ok, sq_nx, sq_rt, onO_some, liftO_some, kd_some, dat_v, dat_t, tru_bl, intOf_int, noExq, stk_v, stk_t, stk_o, stow_tt, stow_fv, stow_ft, eqD_int, cmp_ne, cmp_eq, cmp_gt, cmp_ge, cmp_lt, cmp_le, cmp_in, cmp_notin, cmp_is, cmp_isnot, bin_add, bin_sub, b1_abs, ix0, ix1, items_lst, items_row, put, List.map_cons, List.map_nil, List.cons_append, List.nil_append, List.append_nil, List.length_cons, List.length_nil, List.replicate, List.getElem?_cons_zero, List.getElem?_cons_succ, List.getElem?_nil, List.set_cons_zero, List.set_cons_succ, List.set_nil, Nat.reduceAdd, Nat.reduceSub, Nat.reduceLT, Nat.reduceEqDiff, if_true, ite_true, if_false, ite_false, Option.map_some, Option.map_none, reduceIte, reduceCtorEq, Bool.false_eq_true, Nat.zero_add, Nat.add_zero, Nat.zero_lt_succ, Nat.zero_lt_one, Nat.lt_add_left_iff_pos, Nat.succ_eq_add_one, Nat.reduceLeDiff, i2, ihq]) (by simp; omega)) (by rw [ev, t41]) (by simp; omega)
    refine seq_ret (k := .v) (w.trans ?_) nofun
    simp [tx]
end Mf
set_option Elab.async false
set_option linter.all false
set_option maxRecDepth 100000
set_option maxHeartbeats 4000000
namespace Mf
open PySem L2
def c__law_call : CSs (List Int) :=
  (.cons (.ret (.call "formula_from" 1 g_formula_from (.cons (.var 1) .nil)))
  .nil)
def g__law_call : Sem (List Int) := fnR 2 (c__law_call)
def c__law_outcome : CSs (List Int) :=
  (.cons (.asg false 2 (.con (.non)))
  (.cons (.asg false 3 (.con (.non)))
  (.cons (.tryc 3 2 4 (.call "_law_call" 2 g__law_call (.cons (.var 0) (.cons (.var 1) .nil))))
  (.cons (.ife (.cmp .is (.var 2) (.con (.non))) (.cons (.ret (.tup (.cons (.con (.str "returned")) (.cons (.var 3) .nil))))
   .nil) .nil)
  (.cons (.ret (.tup (.cons (.con (.str "raised")) (.cons (.call "_law_name" 1 g__law_name (.cons (.var 2) .nil)) .nil))))
  .nil)))))
def g__law_outcome : Sem (List Int) := fnR 5 (c__law_outcome)
def b_law_0 (p : Addr) : CSs (List Int) :=
  (.cons (.asg false 7 (.call "_law_draw" 3 (g__law_draw p) (.cons (.var 0) (.cons (.var 1) (.cons (.bin .add (.b1 .len (.var 3)) (.con (.int 1))) .nil)))))
  (.cons (.asg false 8 (.call "_law_pick" 3 (g__law_pick p) (.cons (.var 0) (.cons (.var 1) (.cons (.bin .add (.lss (.con (.str "abg0123-+*/^()[] "))) (.lst (.cons (.con (.str "sqrt[")) (.cons (.con (.str "")) .nil)))) .nil)))))
  (.cons (.asg false 9 (.bin .add (.bin .add (.slH (.var 3) (.var 7)) (.var 8)) (.slL (.var 3) (.bin .add (.var 7) (.call "_law_draw" 3 (g__law_draw p) (.cons (.var 0) (.cons (.var 1) (.cons (.con (.int 2)) .nil))))))))
  (.cons (.asg false 10 (.call "_law_outcome" 2 g__law_outcome (.cons (.con (.int 0)) (.cons (.var 9) .nil))))
  (.cons (.ife (.cmp .eq (.ix (.var 10) (.con (.int 0))) (.con (.str "returned"))) (.cons (.ife (.or (.cmp .isnot (.call "is_formula" 1 g_is_formula (.cons (.ix (.var 10) (.con (.int 1))) .nil)) (.con (.bl true))) (.one (.cmp .ne (.call "_law_line" 1 (g__law_line 6) (.cons (.ix (.var 10) (.con (.int 1))) .nil)) (.var 9)))) (.cons (.ret (.con (.bl false)))
    .nil) .nil)
   .nil) (.cons (.ife (.or (.cmp .ne (.var 10) (.call "_law_raises" 1 g__law_raises (.cons (.con (.str "text")) .nil))) (.one (.cmp .eq (.var 9) (.var 3)))) (.cons (.ret (.con (.bl false)))
    .nil) .nil)
   .nil))
  .nil)))))
def c_law (p : Addr) : CSs (List Int) :=
  (.cons (.asg false 2 (.call "_law_formula" 3 (g__law_formula p 6) (.cons (.var 0) (.cons (.var 1) (.cons (.con (.int 4)) .nil)))))
  (.cons (.asg false 3 (.call "_law_line" 1 (g__law_line 6) (.cons (.var 2) .nil)))
  (.cons (.ife (.or (.cmp .ne (.call "notation" 1 g_notation (.cons (.var 2) .nil)) (.var 3)) (.one (.cmp .ne (.call "_law_outcome" 2 g__law_outcome (.cons (.con (.int 0)) (.cons (.var 3) .nil))) (.tup (.cons (.con (.str "returned")) (.cons (.var 2) .nil)))))) (.cons (.ret (.con (.bl false)))
   .nil) .nil)
  (.cons (.forr (.nm 4) (.rng (.con (.int 10))) (b_law_0 p))
  (.cons (.asg false 5 (.lst (.cons (.con (.non)) (.cons (.con (.int 5)) (.cons (.con (.str "")) (.cons (.con (.str " ")) (.cons (.con (.str "g")) (.cons (.con (.str "0")) (.cons (.con (.str "10")) (.cons (.con (.str "ab")) (.cons (.con (.str "a + b")) (.cons (.con (.str "(a+b)")) (.cons (.con (.str "(a + b")) (.cons (.con (.str "a + b)")) (.cons (.con (.str "(a  + b)")) (.cons (.con (.str "(a + )")) .nil))))))))))))))))
  (.cons (.asg false 5 (.bin .add (.var 5) (.lst (.cons (.con (.str "( + b)")) (.cons (.con (.str "[a]")) (.cons (.con (.str "[a]^4")) (.cons (.con (.str "[a]^-4")) (.cons (.con (.str "[a]^+2")) (.cons (.con (.str "a^2")) (.cons (.con (.str "[a]2")) (.cons (.con (.str "sqrt a")) (.cons (.con (.str "sqrt(a)")) (.cons (.con (.str "wave[]")) .nil)))))))))))))
  (.cons (.asg false 5 (.bin .add (.var 5) (.lst (.cons (.con (.str "Wave[a]")) (.cons (.con (.str "(a # b)")) .nil)))))
  (.cons (.asg false 5 (.bin .add (.var 5) (.lst (.cons (.con (.str "(a + b) ")) (.cons (.con (.str " a")) (.cons (.var 2) (.cons (.lst (.cons (.var 3) .nil)) (.cons (.con (.bl true)) (.cons (.con (.str "sqrt[sqrt[sqrt[sqrt[a]]]]")) (.cons (.con (.str "(a + b + c)")) (.cons (.con (.str "[a]^02")) (.cons (.con (.str "x")) .nil))))))))))))
  (.cons (.ife (.cmp .ne (.lc (.seq (.var 5)) (.nm 11) (.cons (.cmp .ne (.call "_law_outcome" 2 g__law_outcome (.cons (.con (.int 0)) (.cons (.var 11) .nil))) (.call "_law_raises" 1 g__law_raises (.cons (.con (.str "text")) .nil))) .nil) (.var 11) [11]) (.lst .nil)) (.cons (.ret (.con (.bl false)))
   .nil) .nil)
  (.cons (.asg false 6 (.tup (.cons (.con (.str "over")) (.cons (.tup (.cons (.con (.str "name")) (.cons (.con (.str "a")) .nil))) (.cons (.tup (.cons (.con (.str "power")) (.cons (.tup (.cons (.con (.str "plus")) (.cons (.tup (.cons (.con (.str "name")) (.cons (.con (.str "b")) .nil))) (.cons (.tup (.cons (.con (.str "number")) (.cons (.con (.int 3)) .nil))) .nil)))) (.cons (.neg (.con (.int 2))) .nil)))) .nil)))))
  (.cons (.ret (.cmp .eq (.call "_law_outcome" 2 g__law_outcome (.cons (.con (.int 0)) (.cons (.con (.str "(a / [(b + 3)]^-2)")) .nil))) (.tup (.cons (.con (.str "returned")) (.cons (.var 6) .nil)))))
  .nil)))))))))))
end Mf
set_option Elab.async false
set_option linter.all false
set_option maxRecDepth 100000
set_option maxHeartbeats 4000000
namespace Mf
open PySem L2
theorem check_formula_ok {f : Fm} (h : f.ok) (hd : f.dep ≤ 4) (s : List Int) : g_check_formula [f.D] s = .ok .non s := by
  unfold g_check_formula c_check_formula
  simp only [fnR, runs, run, ev, evA, evT, evI, bindq_ok, ob_ok, sq_nx, sq_rt, onO_some, liftO_some, kd_some, dat_v, dat_t, tru_bl, intOf_int, noExq, stk_v, stk_t, stk_o, stow_tt, stow_fv, stow_ft, eqD_int, cmp_ne, cmp_eq, cmp_gt, cmp_ge, cmp_lt, cmp_le, cmp_in, cmp_notin, cmp_is, cmp_isnot, bin_add, bin_sub, b1_abs, ix0, ix1, items_lst, items_row, put, List.map_cons, List.map_nil, List.cons_append, List.nil_append, List.append_nil, List.length_cons, List.length_nil, List.replicate, List.getElem?_cons_zero, List.getElem?_cons_succ, List.getElem?_nil, List.set_cons_zero, List.set_cons_succ, List.set_nil, Nat.reduceAdd, Nat.reduceSub, Nat.reduceLT, Nat.reduceEqDiff, if_true, ite_true, if_false, ite_false, Option.map_some, Option.map_none, reduceIte, reduceCtorEq, Bool.false_eq_true, Nat.zero_add, Nat.add_zero, Nat.zero_lt_succ, Nat.zero_lt_one, Nat.lt_add_left_iff_pos, Nat.succ_eq_add_one, Nat.reduceLeDiff, g_is_formula_ok h hd, Bool.not_true]
theorem notation_ok {f : Fm} (h : f.ok) (hd : f.dep ≤ 4) (s : List Int) : g_notation [f.D] s = .ok (.str (mkS (tx f))) s := by
  unfold g_notation c_notation
  simp only [fnR, runs, run, ev, evA, evT, evI, bindq_ok, ob_ok, sq_nx, sq_rt, onO_some, liftO_some, kd_some, dat_v, dat_t, tru_bl, intOf_int, noExq, stk_v, stk_t, stk_o, stow_tt, stow_fv, stow_ft, eqD_int, cmp_ne, cmp_eq, cmp_gt, cmp_ge, cmp_lt, cmp_le, cmp_in, cmp_notin, cmp_is, cmp_isnot, bin_add, bin_sub, b1_abs, ix0, ix1, items_lst, items_row, put, List.map_cons, List.map_nil, List.cons_append, List.nil_append, List.append_nil, List.length_cons, List.length_nil, List.replicate, List.getElem?_cons_zero, List.getElem?_cons_succ, List.getElem?_nil, List.set_cons_zero, List.set_cons_succ, List.set_nil, Nat.reduceAdd, Nat.reduceSub, Nat.reduceLT, Nat.reduceEqDiff, if_true, ite_true, if_false, ite_false, Option.map_some, Option.map_none, reduceIte, reduceCtorEq, Bool.false_eq_true, Nat.zero_add, Nat.add_zero, Nat.zero_lt_succ, Nat.zero_lt_one, Nat.lt_add_left_iff_pos, Nat.succ_eq_add_one, Nat.reduceLeDiff, check_formula_ok h hd, text_of_ok s 6 f h (by omega) (by omega)]
theorem run_rse {x : Str} {ρ : List SV} {s : List Int} (h : excNames.contains x = true) : run (.rse x) ρ s = .ex x s := by rw [run, if_pos h]
theorem it_ok : excNames.contains ("InvalidText" : Str) = true := by decide +kernel
theorem rse_text {cs : CSs (List Int)} {ρ : List SV} {s : List Int} : runs (.cons (.rse "InvalidText") cs) ρ s = .ex "InvalidText" s := seq_ex (run_rse it_ok)
theorem from_not {d : D} {s : List Int} (h : isiD .str d = some false) : g_formula_from [d] s = .ex "InvalidText" s := by
  refine fnR_ex ?_
  show runs c_formula_from [.va d, .no] s = _
  unfold c_formula_from
  exact seq_ifx (k3 := .v) (by simp only [fnR, runs, run, ev, evA, evT, evI, bindq_ok, ob_ok, sq_nx, sq_rt, onO_some, liftO_some, kd_some, dat_v, dat_t, tru_bl, intOf_int, noExq, stk_v, stk_t, stk_o, stow_tt, stow_fv, stow_ft, eqD_int, cmp_ne, cmp_eq, cmp_gt, cmp_ge, cmp_lt, cmp_le, cmp_in, cmp_notin, cmp_is, cmp_isnot, bin_add, bin_sub, b1_abs, ix0, ix1, items_lst, items_row, put, List.map_cons, List.map_nil, List.cons_append, List.nil_append, List.append_nil, List.length_cons, List.length_nil, List.replicate, List.getElem?_cons_zero, List.getElem?_cons_succ, List.getElem?_nil, List.set_cons_zero, List.set_cons_succ, List.set_nil, Nat.reduceAdd, Nat.reduceSub, Nat.reduceLT, Nat.reduceEqDiff, if_true, ite_true, if_false, ite_false, Option.map_some, Option.map_none, reduceIte, reduceCtorEq, Bool.false_eq_true, Nat.zero_add, Nat.add_zero, Nat.zero_lt_succ, Nat.zero_lt_one, Nat.lt_add_left_iff_pos, Nat.succ_eq_add_one, Nat.reduceLeDiff, h, Bool.not_false]) rse_text
theorem from_ok {l : List Nat} (hl : l.length ≤ 1000) (hg : gd l) (s : List Int) : g_formula_from [.str (mkS l)] s = if fromB l = true then .ok (rd 4 l).D s else .ex "InvalidText" s := by
  have i1 : isiD .str (.str (mkS l)) = some true := rfl
  have e1 : ev (S := List Int) (.or (.not (.isi (.var 0) .str)) (.one (.cmp .gt (.b1 .len (.var 0)) (.con (.int 200))))) [.va (.str (mkS l)), .no] s = .ok (.v, .bl (decide (200 < (l.length : Int)))) s := by
    simp only [fnR, runs, run, ev, evA, evT, evI, bindq_ok, ob_ok, sq_nx, sq_rt, onO_some, liftO_some, kd_some, dat_v, dat_t, tru_bl, intOf_int, noExq, stk_v, stk_t, stk_o, stow_tt, stow_fv, stow_ft, eqD_int, cmp_ne, cmp_eq, cmp_gt, cmp_ge, cmp_lt, cmp_le, cmp_in, cmp_notin, cmp_is, cmp_isnot, bin_add, bin_sub, b1_abs, ix0, ix1, items_lst, items_row, put, List.map_cons, List.map_nil, List.cons_append, List.nil_append, List.append_nil, List.length_cons, List.length_nil, List.replicate, List.getElem?_cons_zero, List.getElem?_cons_succ, List.getElem?_nil, List.set_cons_zero, List.set_cons_succ, List.set_nil, Nat.reduceAdd, Nat.reduceSub, Nat.reduceLT, Nat.reduceEqDiff, if_true, ite_true, if_false, ite_false, Option.map_some, Option.map_none, reduceIte, reduceCtorEq, Bool.false_eq_true, Nat.zero_add, Nat.add_zero, Nat.zero_lt_succ, Nat.zero_lt_one, Nat.lt_add_left_iff_pos, Nat.succ_eq_add_one, Nat.reduceLeDiff, i1, Bool.not_true, len_mk hl]
  by_cases q : l.length ≤ 200
  · rw [decide_eq_false (by omega)] at e1
    have er : ev (S := List Int) (.call "read" 2 (g_read 6) (.cons (.var 0) (.cons (.con (.int 4)) .nil))) [.va (.str (mkS l)), .no] s = .ok (.v, (rd 4 l).D) s := by
      have r := read_ok s 6 4 l (by decide) hl hg
      have r : g_read 6 [.str (mkS l), .int 4] s = _ := r
      simp only [fnR, runs, run, ev, evA, evT, evI, bindq_ok, ob_ok, sq_nx, sq_rt, onO_some, liftO_some, kd_some, dat_v, dat_t, tru_bl, intOf_int, noExq, stk_v, stk_t, stk_o, stow_tt, stow_fv, stow_ft, eqD_int, cmp_ne, cmp_eq, cmp_gt, cmp_ge, cmp_lt, cmp_le, cmp_in, cmp_notin, cmp_is, cmp_isnot, bin_add, bin_sub, b1_abs, ix0, ix1, items_lst, items_row, put, List.map_cons, List.map_nil, List.cons_append, List.nil_append, List.append_nil, List.length_cons, List.length_nil, List.replicate, List.getElem?_cons_zero, List.getElem?_cons_succ, List.getElem?_nil, List.set_cons_zero, List.set_cons_succ, List.set_nil, Nat.reduceAdd, Nat.reduceSub, Nat.reduceLT, Nat.reduceEqDiff, if_true, ite_true, if_false, ite_false, Option.map_some, Option.map_none, reduceIte, reduceCtorEq, Bool.false_eq_true, Nat.zero_add, Nat.add_zero, Nat.zero_lt_succ, Nat.zero_lt_one, Nat.lt_add_left_iff_pos, Nat.succ_eq_add_one, Nat.reduceLeDiff, r]
    have hgd := rd_gd 4 l hg
    cases hF : isF 4 (rd 4 l) with
    | false =>
      have : ¬ fromB l = true := by unfold fromB; rw [hF]; simp
      rw [if_neg this]
      refine fnR_ex ?_
      show runs c_formula_from [.va (.str (mkS l)), .no] s = _
      unfold c_formula_from
      refine seq_iff e1 (seq_asg (x := (.v, (rd 4 l).D)) (ρ' := [.va (.str (mkS l)), .va (rd 4 l).D]) er rfl rfl ?_)
      exact seq_ifx (k3 := .v) (by simp only [fnR, runs, run, ev, evA, evT, evI, bindq_ok, ob_ok, sq_nx, sq_rt, onO_some, liftO_some, kd_some, dat_v, dat_t, tru_bl, intOf_int, noExq, stk_v, stk_t, stk_o, stow_tt, stow_fv, stow_ft, eqD_int, cmp_ne, cmp_eq, cmp_gt, cmp_ge, cmp_lt, cmp_le, cmp_in, cmp_notin, cmp_is, cmp_isnot, bin_add, bin_sub, b1_abs, ix0, ix1, items_lst, items_row, put, List.map_cons, List.map_nil, List.cons_append, List.nil_append, List.append_nil, List.length_cons, List.length_nil, List.replicate, List.getElem?_cons_zero, List.getElem?_cons_succ, List.getElem?_nil, List.set_cons_zero, List.set_cons_succ, List.set_nil, Nat.reduceAdd, Nat.reduceSub, Nat.reduceLT, Nat.reduceEqDiff, if_true, ite_true, if_false, ite_false, Option.map_some, Option.map_none, reduceIte, reduceCtorEq, Bool.false_eq_true, Nat.zero_add, Nat.add_zero, Nat.zero_lt_succ, Nat.zero_lt_one, Nat.lt_add_left_iff_pos, Nat.succ_eq_add_one, Nat.reduceLeDiff, is_formula_b hgd, hF, Bool.not_false]) rse_text
    | true =>
      obtain ⟨f, f1, f2, f3⟩ := isF_fm 4 _ hF
      have hb : fromB l = decide (tx f = l) := by
        unfold fromB
        rw [hF, f3, txR_of, decide_eq_true q]
        rfl
      have eT : g_text_of 6 [(rd 4 l).D] s = .ok (.str (mkS (tx f))) s := by rw [f3, ofF_D]; exact text_of_ok s 6 f f1 (by omega) (by omega)
      have htx : gd (tx f) ∨ True := .inr trivial
      have okt : okS (mkS (tx f)) = true := by
        have : ∀ g : Fm, g.ok → gd (tx g) := fun g hk => by
          induction g with
          | nm i => have hk : i < 6 := hk; exact gd_one (by omega)
          | nu k => have hk : 1 ≤ k ∧ k ≤ 9 := hk; exact gd_one (by omega)
          | bi o p q ip iq => exact gd_cons (by decide) (gd_app (ip hk.1) (gd_cons (by decide) (gd_cons (by cases o <;> decide) (gd_cons (by decide) (gd_app (iq hk.2) (gd_one (by decide)))))))
          | pw p k ip =>
            have hk2 : -3 ≤ k ∧ k ≤ 3 := hk.2
            refine gd_cons (by decide) (gd_app (ip hk.1) (gd_cons (by decide) (gd_cons (by decide) ?_)))
            unfold nuT
            split
            · exact gd_cons (by decide) (gd_one (by omega))
            · exact gd_one (by omega)
          | rt p ip => exact gd_app (fun c hc => by revert c; decide) (gd_app (ip hk) (gd_one (by decide)))
          | wv p ip => exact gd_app (fun c hc => by revert c; decide) (gd_app (ip hk) (gd_one (by decide)))
        exact okS_mk (this f f1)
      have gtx : eqD (.str (mkS (tx f))) (.str (mkS l)) = some (decide (tx f = l)) := by
        unfold eqD
        have o1 : (D.str (mkS (tx f))).sh 60 = true := okt
        rw [o1, sh_mk hg]
        show some (mkS (tx f) == mkS l) = _
        congr 1
        rw [Bool.eq_iff_iff, beq_iff_eq, decide_eq_true_eq]
        exact ⟨mkS_inj, fun e => by rw [e]⟩
      have e2 : ev (S := List Int) (.or (.not (.call "is_formula" 1 g_is_formula (.cons (.var 1) .nil))) (.one (.cmp .ne (.call "text_of" 1 (g_text_of 6) (.cons (.var 1) .nil)) (.var 0)))) [.va (.str (mkS l)), .va (rd 4 l).D] s = .ok (.v, .bl (!decide (tx f = l))) s := by
        simp only [fnR, runs, run, ev, evA, evT, evI, bindq_ok, ob_ok, sq_nx, sq_rt, onO_some, liftO_some, kd_some, dat_v, dat_t, tru_bl, intOf_int, noExq, stk_v, stk_t, stk_o, stow_tt, stow_fv, stow_ft, eqD_int, cmp_ne, cmp_eq, cmp_gt, cmp_ge, cmp_lt, cmp_le, cmp_in, cmp_notin, cmp_is, cmp_isnot, bin_add, bin_sub, b1_abs, ix0, ix1, items_lst, items_row, put, List.map_cons, List.map_nil, List.cons_append, List.nil_append, List.append_nil, List.length_cons, List.length_nil, List.replicate, List.getElem?_cons_zero, List.getElem?_cons_succ, List.getElem?_nil, List.set_cons_zero, List.set_cons_succ, List.set_nil, Nat.reduceAdd, Nat.reduceSub, Nat.reduceLT, Nat.reduceEqDiff, if_true, ite_true, if_false, ite_false, Option.map_some, Option.map_none, reduceIte, reduceCtorEq, Bool.false_eq_true, Nat.zero_add, Nat.add_zero, Nat.zero_lt_succ, Nat.zero_lt_one, Nat.lt_add_left_iff_pos, Nat.succ_eq_add_one, Nat.reduceLeDiff, is_formula_b hgd, hF, Bool.not_true, eT, gtx]
      rw [hb]
      cases hq : decide (tx f = l) with
      | true =>
        rw [hq] at e2
        rw [if_pos rfl]
        refine fnR_rt ?_
        show runs c_formula_from [.va (.str (mkS l)), .no] s = _
        unfold c_formula_from
        refine seq_iff e1 (seq_asg (x := (.v, (rd 4 l).D)) (ρ' := [.va (.str (mkS l)), .va (rd 4 l).D]) er rfl rfl ?_)
        exact seq_iff e2 (seq_ret (k := .v) (by simp only [fnR, runs, run, ev, evA, evT, evI, bindq_ok, ob_ok, sq_nx, sq_rt, onO_some, liftO_some, kd_some, dat_v, dat_t, tru_bl, intOf_int, noExq, stk_v, stk_t, stk_o, stow_tt, stow_fv, stow_ft, eqD_int, cmp_ne, cmp_eq, cmp_gt, cmp_ge, cmp_lt, cmp_le, cmp_in, cmp_notin, cmp_is, cmp_isnot, bin_add, bin_sub, b1_abs, ix0, ix1, items_lst, items_row, put, List.map_cons, List.map_nil, List.cons_append, List.nil_append, List.append_nil, List.length_cons, List.length_nil, List.replicate, List.getElem?_cons_zero, List.getElem?_cons_succ, List.getElem?_nil, List.set_cons_zero, List.set_cons_succ, List.set_nil, Nat.reduceAdd, Nat.reduceSub, Nat.reduceLT, Nat.reduceEqDiff, if_true, ite_true, if_false, ite_false, Option.map_some, Option.map_none, reduceIte, reduceCtorEq, Bool.false_eq_true, Nat.zero_add, Nat.add_zero, Nat.zero_lt_succ, Nat.zero_lt_one, Nat.lt_add_left_iff_pos, Nat.succ_eq_add_one, Nat.reduceLeDiff]) nofun)
      | false =>
        rw [hq] at e2
        rw [if_neg Bool.false_ne_true]
        refine fnR_ex ?_
        show runs c_formula_from [.va (.str (mkS l)), .no] s = _
        unfold c_formula_from
        refine seq_iff e1 (seq_asg (x := (.v, (rd 4 l).D)) (ρ' := [.va (.str (mkS l)), .va (rd 4 l).D]) er rfl rfl ?_)
        exact seq_ifx e2 rse_text
  · have : ¬ fromB l = true := by unfold fromB; rw [decide_eq_false q]; simp
    rw [if_neg this]
    rw [decide_eq_true (by omega)] at e1
    refine fnR_ex ?_
    show runs c_formula_from [.va (.str (mkS l)), .no] s = _
    unfold c_formula_from
    exact seq_ifx e1 rse_text
theorem tx_gd : ∀ g : Fm, g.ok → gd (tx g) := fun g hk => by
  induction g with
  | nm i => have hk : i < 6 := hk; exact gd_one (by omega)
  | nu k => have hk : 1 ≤ k ∧ k ≤ 9 := hk; exact gd_one (by omega)
  | bi o p q ip iq => exact gd_cons (by decide) (gd_app (ip hk.1) (gd_cons (by decide) (gd_cons (by cases o <;> decide) (gd_cons (by decide) (gd_app (iq hk.2) (gd_one (by decide)))))))
  | pw p k ip =>
    have hk2 : -3 ≤ k ∧ k ≤ 3 := hk.2
    refine gd_cons (by decide) (gd_app (ip hk.1) (gd_cons (by decide) (gd_cons (by decide) ?_)))
    unfold nuT
    split
    · exact gd_cons (by decide) (gd_one (by omega))
    · exact gd_one (by omega)
  | rt p ip => exact gd_app (fun c hc => by revert c; decide) (gd_app (ip hk) (gd_one (by decide)))
  | wv p ip => exact gd_app (fun c hc => by revert c; decide) (gd_app (ip hk) (gd_one (by decide)))
theorem name_InvalidText (s : List Int) : g__law_name [.exn "InvalidText"] s = .ok (.int 8) s := by kernel_rfl
theorem raises_text (s : List Int) : g__law_raises [.str "text"] s = .ok (.tup [.str "raised", .int 8]) s := by kernel_rfl
abbrev dBad : D := .tup [.str "raised", .int 8]
theorem call_eq (w : Int) (d : D) (s : List Int) : g__law_call [.int w, d] s = g_formula_from [d] s := by
  show fnR 2 c__law_call [.int w, d] s = _
  cases e : g_formula_from [d] s with
  | ok x s1 =>
    unfold c__law_call
    simp only [fnR, runs, run, ev, evA, evT, evI, bindq_ok, ob_ok, sq_nx, sq_rt, onO_some, liftO_some, kd_some, dat_v, dat_t, tru_bl, intOf_int, noExq, stk_v, stk_t, stk_o, stow_tt, stow_fv, stow_ft, eqD_int, cmp_ne, cmp_eq, cmp_gt, cmp_ge, cmp_lt, cmp_le, cmp_in, cmp_notin, cmp_is, cmp_isnot, bin_add, bin_sub, b1_abs, ix0, ix1, items_lst, items_row, put, List.map_cons, List.map_nil, List.cons_append, List.nil_append, List.append_nil, List.length_cons, List.length_nil, List.replicate, List.getElem?_cons_zero, List.getElem?_cons_succ, List.getElem?_nil, List.set_cons_zero, List.set_cons_succ, List.set_nil, Nat.reduceAdd, Nat.reduceSub, Nat.reduceLT, Nat.reduceEqDiff, if_true, ite_true, if_false, ite_false, Option.map_some, Option.map_none, reduceIte, reduceCtorEq, Bool.false_eq_true, Nat.zero_add, Nat.add_zero, Nat.zero_lt_succ, Nat.zero_lt_one, Nat.lt_add_left_iff_pos, Nat.succ_eq_add_one, Nat.reduceLeDiff, e]
  | ex x s1 =>
    refine fnR_ex ?_
    unfold c__law_call
    exact seq_ex (run_ret_ex (by simp only [fnR, runs, run, ev, evA, evT, evI, bindq_ok, ob_ok, sq_nx, sq_rt, onO_some, liftO_some, kd_some, dat_v, dat_t, tru_bl, intOf_int, noExq, stk_v, stk_t, stk_o, stow_tt, stow_fv, stow_ft, eqD_int, cmp_ne, cmp_eq, cmp_gt, cmp_ge, cmp_lt, cmp_le, cmp_in, cmp_notin, cmp_is, cmp_isnot, bin_add, bin_sub, b1_abs, ix0, ix1, items_lst, items_row, put, List.map_cons, List.map_nil, List.cons_append, List.nil_append, List.append_nil, List.length_cons, List.length_nil, List.replicate, List.getElem?_cons_zero, List.getElem?_cons_succ, List.getElem?_nil, List.set_cons_zero, List.set_cons_succ, List.set_nil, Nat.reduceAdd, Nat.reduceSub, Nat.reduceLT, Nat.reduceEqDiff, if_true, ite_true, if_false, ite_false, Option.map_some, Option.map_none, reduceIte, reduceCtorEq, Bool.false_eq_true, Nat.zero_add, Nat.add_zero, Nat.zero_lt_succ, Nat.zero_lt_one, Nat.lt_add_left_iff_pos, Nat.succ_eq_add_one, Nat.reduceLeDiff, e]; rfl))
  | er =>
    unfold c__law_call
    simp only [fnR, runs, run, ev, evA, evT, evI, bindq_ok, ob_ok, sq_nx, sq_rt, onO_some, liftO_some, kd_some, dat_v, dat_t, tru_bl, intOf_int, noExq, stk_v, stk_t, stk_o, stow_tt, stow_fv, stow_ft, eqD_int, cmp_ne, cmp_eq, cmp_gt, cmp_ge, cmp_lt, cmp_le, cmp_in, cmp_notin, cmp_is, cmp_isnot, bin_add, bin_sub, b1_abs, ix0, ix1, items_lst, items_row, put, List.map_cons, List.map_nil, List.cons_append, List.nil_append, List.append_nil, List.length_cons, List.length_nil, List.replicate, List.getElem?_cons_zero, List.getElem?_cons_succ, List.getElem?_nil, List.set_cons_zero, List.set_cons_succ, List.set_nil, Nat.reduceAdd, Nat.reduceSub, Nat.reduceLT, Nat.reduceEqDiff, if_true, ite_true, if_false, ite_false, Option.map_some, Option.map_none, reduceIte, reduceCtorEq, Bool.false_eq_true, Nat.zero_add, Nat.add_zero, Nat.zero_lt_succ, Nat.zero_lt_one, Nat.lt_add_left_iff_pos, Nat.succ_eq_add_one, Nat.reduceLeDiff, e]
    rfl
theorem out_bad {d : D} {s : List Int} (h : g_formula_from [d] s = .ex "InvalidText" s) : g__law_outcome [.int 0, d] s = .ok dBad s :=
  out_ex (g := g__law_call) (by rw [call_eq]; exact h) it_ok (name_InvalidText s)
theorem out_good {d x : D} {s : List Int} (h : g_formula_from [d] s = .ok x s) : g__law_outcome [.int 0, d] s = .ok (.tup [.str "returned", x]) s :=
  out_ok (g := g__law_call) (by rw [call_eq]; exact h)
end Mf
set_option Elab.async false
set_option linter.all false
set_option maxRecDepth 100000
set_option maxHeartbeats 4000000
namespace Mf
open PySem L2
variable {p : Addr} {ns : List Int}
theorem fm_sh : ∀ (f : Fm) (n : Nat), f.ok → f.dep < n → f.D.sh n = true
  | .nm i, n + 1, ok, h => by
    have e : mkS [97 + i] = nm i := rfl
    have q := okS_mk (l := [97 + i]) (gd_one (by have ok : i < 6 := ok; omega))
    show (okS "name" && ((D.str (nm i)).sh n && true)) = true
    rw [show (D.str (nm i)).sh n = true from sh_mk (gd_one (by have ok : i < 6 := ok; omega)) n]
    decide +kernel
  | .nu k, n + 1, ok, h => by
    show (okS "number" && ((D.int k).sh n && true)) = true
    rw [show (D.int k).sh n = true by cases n <;> rfl]
    decide +kernel
  | .bi o p q, n + 1, ok, h => by
    have h : max p.dep q.dep + 1 < n + 1 := h
    show ((D.str o.w).sh n && (p.D.sh n && (q.D.sh n && true))) = true
    rw [fm_sh p n ok.1 (by omega), fm_sh q n ok.2 (by omega)]
    cases n with
    | zero => omega
    | succ n => cases o <;> (show (okS _ && _) = true; decide +kernel)
  | .pw p k, n + 1, ok, h => by
    have h : p.dep + 1 < n + 1 := h
    show (okS "power" && (p.D.sh n && ((D.int k).sh n && true))) = true
    rw [fm_sh p n ok.1 (by omega), show (D.int k).sh n = true by cases n <;> rfl]
    decide +kernel
  | .rt p, n + 1, ok, h => by
    have h : p.dep + 1 < n + 1 := h
    show (okS "root" && (p.D.sh n && true)) = true
    rw [fm_sh p n ok (by omega)]
    decide +kernel
  | .wv p, n + 1, ok, h => by
    have h : p.dep + 1 < n + 1 := h
    show (okS "wave" && (p.D.sh n && true)) = true
    rw [fm_sh p n ok (by omega)]
    decide +kernel
  | f, 0, ok, h => by omega
theorem ret_sh {f : Fm} (ok : f.ok) (h : f.dep ≤ 4) : (D.tup [.str "returned", f.D]).sh 60 = true := by
  show (okS "returned" && (f.D.sh 59 && true)) = true
  rw [fm_sh f 59 ok (by omega)]
  decide +kernel
theorem bin_s {a b : List Nat} (h : a.length + b.length ≤ 1000) : binD .add (.str (mkS a)) (.str (mkS b)) = some (.v, .str (mkS (a ++ b))) := by
  show (if lenOk ((mkS a).length + (mkS b).length) then some ((.v, .str (mkS a ++ mkS b)) : K3 × D) else none) = _
  rw [mkS_len, mkS_len, if_pos (lenOk_of (by omega)), mkS_app]
def chs : List (List Nat) := [[97], [98], [103], [48], [49], [50], [51], [45], [43], [42], [47], [94], [40], [41], [91], [93], [32], [115, 113, 114, 116, 91], []]
theorem chs_ok : ∀ x ∈ chs, gd x ∧ x.length ≤ 5 := by
  have h : ∀ x ∈ chs, (x.all (fun c => decide (c < 128)) && decide (x.length ≤ 5)) = true := by decide +kernel
  intro x hx
  have := h x hx
  simp only [Bool.and_eq_true, List.all_eq_true, decide_eq_true_eq] at this
  exact this
theorem ev_chs (ρ : List SV) (s : List Int) : ev (S := List Int) (.bin .add (.lss (.con (.str "abg0123-+*/^()[] "))) (.lst (.cons (.con (.str "sqrt[")) (.cons (.con (.str "")) .nil)))) ρ s = .ok (.t, .lst (chs.map fun x => .str (mkS x))) s := by kernel_rfl
theorem pick_ev {X : CE (List Int)} {a b c : D} {cs : List D} {r : List SV} {s s2 : List Int} {g : Sem (List Int)} (hX : ev X (.va a :: .va b :: r) s = .ok (.t, .lst cs) s) (h : g [a, b, .lst cs] s = .ok c s2) :
    ev (.call "_law_pick" 3 g (.cons (.var 0) (.cons (.var 1) (.cons X .nil)))) (.va a :: .va b :: r) s = .ok (.v, c) s2 := by
  simp only [fnR, runs, run, ev, evA, evT, evI, bindq_ok, ob_ok, sq_nx, sq_rt, onO_some, liftO_some, kd_some, dat_v, dat_t, tru_bl, intOf_int, noExq, stk_v, stk_t, stk_o, stow_tt, stow_fv, stow_ft, eqD_int, cmp_ne, cmp_eq, cmp_gt, cmp_ge, cmp_lt, cmp_le, cmp_in, cmp_notin, cmp_is, cmp_isnot, bin_add, bin_sub, b1_abs, ix0, ix1, items_lst, items_row, put, List.map_cons, List.map_nil, List.cons_append, List.nil_append, List.append_nil, List.length_cons, List.length_nil, List.replicate, List.getElem?_cons_zero, List.getElem?_cons_succ, List.getElem?_nil, List.set_cons_zero, List.set_cons_succ, List.set_nil, Nat.reduceAdd, Nat.reduceSub, Nat.reduceLT, Nat.reduceEqDiff, if_true, ite_true, if_false, ite_false, Option.map_some, Option.map_none, reduceIte, reduceCtorEq, Bool.false_eq_true, Nat.zero_add, Nat.add_zero, Nat.zero_lt_succ, Nat.zero_lt_one, Nat.lt_add_left_iff_pos, Nat.succ_eq_add_one, Nat.reduceLeDiff, hX, h]
abbrev rh (p : Addr) (ns : List Int) (f : Fm) (x4 x7 x8 x9 x10 : SV) : List SV := [.va (.scr ns), .va (.adr p), .va f.D, .va (.str (mkS (tx f))), x4, .no, .no, x7, x8, x9, x10, .no]
theorem body_ok {f : Fm} (ok : f.ok) (hd : f.dep ≤ 4) {x4 x7 x8 x9 x10 : SV} {s : List Int} {m : Nat} (t : Tw ns m s) (hm : m < 1000000) :
    ∃ y7 y8 y9 y10 s', runs (b_law_0 p) (rh p ns f x4 x7 x8 x9 x10) s = .nx (rh p ns f x4 y7 y8 y9 y10) s' ∧ Tw ns (m + 3) s' := by
  have hL := tx_58 hd
  have hgL := tx_gd f ok
  obtain ⟨at_, s1, v1, a0, a1, t1⟩ := draw_ok (p := p) (m := ((tx f).length : Int) + 1) t (by omega) (by omega) (by omega)
  obtain ⟨sg, s2, v2, hsg, t2⟩ := pick_ok (p := p) (cs := chs.map fun x => .str (mkS x)) t1 (by omega) (by decide) (by decide)
  obtain ⟨x, hx, rfl⟩ := List.mem_map.mp hsg
  obtain ⟨gx, lx⟩ := chs_ok x hx
  obtain ⟨dd, s3, v3, d0, d1, t3⟩ := draw_ok (p := p) (m := 2) t2 (by omega) (by omega) (by omega)
  have hA : (sl (tx f) none (some at_)).length + x.length ≤ 1000 := by have := sl_len (tx f) none (some at_); omega
  have hB : (sl (tx f) none (some at_) ++ x).length + (sl (tx f) (some (at_ + dd)) none).length ≤ 1000 := by
    have h1 := sl_len (tx f) none (some at_)
    have h2 := sl_len (tx f) (some (at_ + dd)) none
    rw [List.length_append]
    omega
  generalize hO : (sl (tx f) none (some at_) ++ x) ++ sl (tx f) (some (at_ + dd)) none = O
  have gO : gd O := by rw [← hO]; exact gd_app (gd_app (gd_sl hgL _ _) gx) (gd_sl hgL _ _)
  have lO : O.length ≤ 1000 := by rw [← hO, List.length_append]; exact hB
  have fin : ∀ T : D, g__law_outcome [.int 0, .str (mkS O)] s3 = .ok T s3 →
      runs (.cons (.ife (.cmp .eq (.ix (.var 10) (.con (.int 0))) (.con (.str "returned"))) (.cons (.ife (.or (.cmp .isnot (.call "is_formula" 1 g_is_formula (.cons (.ix (.var 10) (.con (.int 1))) .nil)) (.con (.bl true))) (.one (.cmp .ne (.call "_law_line" 1 (g__law_line 6) (.cons (.ix (.var 10) (.con (.int 1))) .nil)) (.var 9)))) (.cons (.ret (.con (.bl false))) .nil) .nil) .nil) (.cons (.ife (.or (.cmp .ne (.var 10) (.call "_law_raises" 1 g__law_raises (.cons (.con (.str "text")) .nil))) (.one (.cmp .eq (.var 9) (.var 3)))) (.cons (.ret (.con (.bl false))) .nil) .nil) .nil)) .nil) (rh p ns f x4 (.va (.int at_)) (.va (.str (mkS x))) (.va (.str (mkS O))) (.va T)) s3 = .nx (rh p ns f x4 (.va (.int at_)) (.va (.str (mkS x))) (.va (.str (mkS O))) (.va T)) s3 →
      ∃ y7 y8 y9 y10 s', runs (b_law_0 p) (rh p ns f x4 x7 x8 x9 x10) s = .nx (rh p ns f x4 y7 y8 y9 y10) s' ∧ Tw ns (m + 3) s' := by
    intro T hT hr
    refine ⟨.va (.int at_), .va (.str (mkS x)), .va (.str (mkS O)), .va T, s3, ?_, t3⟩
    unfold b_law_0
    refine seq_nx (run_asgq (x := (.v, .int at_)) (ρ' := rh p ns f x4 (.va (.int at_)) x8 x9 x10) (s1 := s1) (by
      have v1 : g__law_draw p [.scr ns, .adr p, .int (((tx f).length : Int) + 1)] s = _ := v1
      simp only [rh, fnR, runs, run, ev, evA, evT, evI, bindq_ok, ob_ok, sq_nx, sq_rt, onO_some, liftO_some, kd_some, dat_v, dat_t, tru_bl, intOf_int, noExq, stk_v, stk_t, stk_o, stow_tt, stow_fv, stow_ft, eqD_int, cmp_ne, cmp_eq, cmp_gt, cmp_ge, cmp_lt, cmp_le, cmp_in, cmp_notin, cmp_is, cmp_isnot, bin_add, bin_sub, b1_abs, ix0, ix1, items_lst, items_row, put, List.map_cons, List.map_nil, List.cons_append, List.nil_append, List.append_nil, List.length_cons, List.length_nil, List.replicate, List.getElem?_cons_zero, List.getElem?_cons_succ, List.getElem?_nil, List.set_cons_zero, List.set_cons_succ, List.set_nil, Nat.reduceAdd, Nat.reduceSub, Nat.reduceLT, Nat.reduceEqDiff, if_true, ite_true, if_false, ite_false, Option.map_some, Option.map_none, reduceIte, reduceCtorEq, Bool.false_eq_true, Nat.zero_add, Nat.add_zero, Nat.zero_lt_succ, Nat.zero_lt_one, Nat.lt_add_left_iff_pos, Nat.succ_eq_add_one, Nat.reduceLeDiff, len_mk (show (tx f).length ≤ 1000 by omega), v1]) rfl rfl) ?_
    refine seq_nx (run_asgq (x := (.v, .str (mkS x))) (ρ' := rh p ns f x4 (.va (.int at_)) (.va (.str (mkS x))) x9 x10) (s1 := s2) (by
      exact pick_ev (ev_chs _ s1) v2) rfl rfl) ?_
    refine seq_nx (run_asgq (x := (.v, .str (mkS O))) (ρ' := rh p ns f x4 (.va (.int at_)) (.va (.str (mkS x))) (.va (.str (mkS O))) x10) (s1 := s3) (by
      have v3 : g__law_draw p [.scr ns, .adr p, .int 2] s2 = _ := v3
      simp only [rh, fnR, runs, run, ev, evA, evT, evI, bindq_ok, ob_ok, sq_nx, sq_rt, onO_some, liftO_some, kd_some, dat_v, dat_t, tru_bl, intOf_int, noExq, stk_v, stk_t, stk_o, stow_tt, stow_fv, stow_ft, eqD_int, cmp_ne, cmp_eq, cmp_gt, cmp_ge, cmp_lt, cmp_le, cmp_in, cmp_notin, cmp_is, cmp_isnot, bin_add, bin_sub, b1_abs, ix0, ix1, items_lst, items_row, put, List.map_cons, List.map_nil, List.cons_append, List.nil_append, List.append_nil, List.length_cons, List.length_nil, List.replicate, List.getElem?_cons_zero, List.getElem?_cons_succ, List.getElem?_nil, List.set_cons_zero, List.set_cons_succ, List.set_nil, Nat.reduceAdd, Nat.reduceSub, Nat.reduceLT, Nat.reduceEqDiff, if_true, ite_true, if_false, ite_false, Option.map_some, Option.map_none, reduceIte, reduceCtorEq, Bool.false_eq_true, Nat.zero_add, Nat.add_zero, Nat.zero_lt_succ, Nat.zero_lt_one, Nat.lt_add_left_iff_pos, Nat.succ_eq_add_one, Nat.reduceLeDiff, sl_mk (show (tx f).length ≤ 1000 by omega), bin_s hA, v3, bin_s hB, hO]) rfl rfl) ?_
    refine seq_nx (run_asgq (x := (.v, T)) (ρ' := rh p ns f x4 (.va (.int at_)) (.va (.str (mkS x))) (.va (.str (mkS O))) (.va T)) (s1 := s3) (by
      simp only [rh, fnR, runs, run, ev, evA, evT, evI, bindq_ok, ob_ok, sq_nx, sq_rt, onO_some, liftO_some, kd_some, dat_v, dat_t, tru_bl, intOf_int, noExq, stk_v, stk_t, stk_o, stow_tt, stow_fv, stow_ft, eqD_int, cmp_ne, cmp_eq, cmp_gt, cmp_ge, cmp_lt, cmp_le, cmp_in, cmp_notin, cmp_is, cmp_isnot, bin_add, bin_sub, b1_abs, ix0, ix1, items_lst, items_row, put, List.map_cons, List.map_nil, List.cons_append, List.nil_append, List.append_nil, List.length_cons, List.length_nil, List.replicate, List.getElem?_cons_zero, List.getElem?_cons_succ, List.getElem?_nil, List.set_cons_zero, List.set_cons_succ, List.set_nil, Nat.reduceAdd, Nat.reduceSub, Nat.reduceLT, Nat.reduceEqDiff, if_true, ite_true, if_false, ite_false, Option.map_some, Option.map_none, reduceIte, reduceCtorEq, Bool.false_eq_true, Nat.zero_add, Nat.add_zero, Nat.zero_lt_succ, Nat.zero_lt_one, Nat.lt_add_left_iff_pos, Nat.succ_eq_add_one, Nat.reduceLeDiff, hT]) rfl rfl) ?_
    exact hr
  have hf := from_ok lO gO s3
  cases hb : fromB O with
  | true =>
    rw [hb, if_pos rfl] at hf
    obtain ⟨g, g1, g2, g3, g4⟩ := fromB_fm hb
    rw [g3, ofF_D] at hf
    refine fin (.tup [.str "returned", g.D]) (out_good hf) ?_
    refine seq_if (k := true) (k3 := .v) (by kernel_rfl) ?_
    have i1 : ixD (.tup [.str "returned", g.D]) (.int 1) = some g.D := rfl
    have isT : isD (.bl true) (.bl true) = some true := rfl
    have e : ev (S := List Int) (.or (.cmp .isnot (.call "is_formula" 1 g_is_formula (.cons (.ix (.var 10) (.con (.int 1))) .nil)) (.con (.bl true))) (.one (.cmp .ne (.call "_law_line" 1 (g__law_line 6) (.cons (.ix (.var 10) (.con (.int 1))) .nil)) (.var 9)))) (rh p ns f x4 (.va (.int at_)) (.va (.str (mkS x))) (.va (.str (mkS O))) (.va (.tup [.str "returned", g.D]))) s3 = .ok (.v, .bl false) s3 := by
      simp only [rh, fnR, runs, run, ev, evA, evT, evI, bindq_ok, ob_ok, sq_nx, sq_rt, onO_some, liftO_some, kd_some, dat_v, dat_t, tru_bl, intOf_int, noExq, stk_v, stk_t, stk_o, stow_tt, stow_fv, stow_ft, eqD_int, cmp_ne, cmp_eq, cmp_gt, cmp_ge, cmp_lt, cmp_le, cmp_in, cmp_notin, cmp_is, cmp_isnot, bin_add, bin_sub, b1_abs, ix0, ix1, items_lst, items_row, put, List.map_cons, List.map_nil, List.cons_append, List.nil_append, List.append_nil, List.length_cons, List.length_nil, List.replicate, List.getElem?_cons_zero, List.getElem?_cons_succ, List.getElem?_nil, List.set_cons_zero, List.set_cons_succ, List.set_nil, Nat.reduceAdd, Nat.reduceSub, Nat.reduceLT, Nat.reduceEqDiff, if_true, ite_true, if_false, ite_false, Option.map_some, Option.map_none, reduceIte, reduceCtorEq, Bool.false_eq_true, Nat.zero_add, Nat.add_zero, Nat.zero_lt_succ, Nat.zero_lt_one, Nat.lt_add_left_iff_pos, Nat.succ_eq_add_one, Nat.reduceLeDiff, i1, g_is_formula_ok g1 g2, isT, Bool.not_true, line_ok s3 6 g g1 (by omega) (by omega), g4, eqD_mk gO gO, decide_true]
    rw [if_pos rfl, seq_iff e (runs_nil _)]
    exact runs_nil _
  | false =>
    rw [hb, if_neg Bool.false_ne_true] at hf
    refine fin dBad (out_bad hf) ?_
    refine seq_if (k := false) (k3 := .v) (by kernel_rfl) ?_
    have ne : O ≠ tx f := fun z => by rw [z, fromB_tx ok hd] at hb; cases hb
    have eb : eqD dBad dBad = some true := by kernel_rfl
    have e : ev (S := List Int) (.or (.cmp .ne (.var 10) (.call "_law_raises" 1 g__law_raises (.cons (.con (.str "text")) .nil))) (.one (.cmp .eq (.var 9) (.var 3)))) (rh p ns f x4 (.va (.int at_)) (.va (.str (mkS x))) (.va (.str (mkS O))) (.va dBad)) s3 = .ok (.v, .bl false) s3 := by
      simp only [rh, fnR, runs, run, ev, evA, evT, evI, bindq_ok, ob_ok, sq_nx, sq_rt, onO_some, liftO_some, kd_some, dat_v, dat_t, tru_bl, intOf_int, noExq, stk_v, stk_t, stk_o, stow_tt, stow_fv, stow_ft, eqD_int, cmp_ne, cmp_eq, cmp_gt, cmp_ge, cmp_lt, cmp_le, cmp_in, cmp_notin, cmp_is, cmp_isnot, bin_add, bin_sub, b1_abs, ix0, ix1, items_lst, items_row, put, List.map_cons, List.map_nil, List.cons_append, List.nil_append, List.append_nil, List.length_cons, List.length_nil, List.replicate, List.getElem?_cons_zero, List.getElem?_cons_succ, List.getElem?_nil, List.set_cons_zero, List.set_cons_succ, List.set_nil, Nat.reduceAdd, Nat.reduceSub, Nat.reduceLT, Nat.reduceEqDiff, if_true, ite_true, if_false, ite_false, Option.map_some, Option.map_none, reduceIte, reduceCtorEq, Bool.false_eq_true, Nat.zero_add, Nat.add_zero, Nat.zero_lt_succ, Nat.zero_lt_one, Nat.lt_add_left_iff_pos, Nat.succ_eq_add_one, Nat.reduceLeDiff, raises_text, eb, Bool.not_true, eqD_mk gO hgL, ne, decide_false]
    rw [if_neg Bool.false_ne_true, seq_iff e (runs_nil _)]
    exact runs_nil _
def bs1 : List (List Nat) := [[], [32], [103], [48], [49, 48], [97, 98], [97, 32, 43, 32, 98], [40, 97, 43, 98, 41], [40, 97, 32, 43, 32, 98], [97, 32, 43, 32, 98, 41], [40, 97, 32, 32, 43, 32, 98, 41], [40, 97, 32, 43, 32, 41]]
def bs2 : List (List Nat) := [[40, 32, 43, 32, 98, 41], [91, 97, 93], [91, 97, 93, 94, 52], [91, 97, 93, 94, 45, 52], [91, 97, 93, 94, 43, 50], [97, 94, 50], [91, 97, 93, 50], [115, 113, 114, 116, 32, 97], [115, 113, 114, 116, 40, 97, 41], [119, 97, 118, 101, 91, 93]]
def bs3 : List (List Nat) := [[87, 97, 118, 101, 91, 97, 93], [40, 97, 32, 35, 32, 98, 41]]
def bs4 : List (List Nat) := [[40, 97, 32, 43, 32, 98, 41, 32], [32, 97]]
def bs5 : List (List Nat) := [[115, 113, 114, 116, 91, 115, 113, 114, 116, 91, 115, 113, 114, 116, 91, 115, 113, 114, 116, 91, 97, 93, 93, 93, 93], [40, 97, 32, 43, 32, 98, 32, 43, 32, 99, 41], [91, 97, 93, 94, 48, 50], [120]]
def mD (l : List (List Nat)) : List D := l.map fun x => .str (mkS x)
def badB (x : List Nat) : Bool := x.all (fun c => decide (c < 128)) && (decide (x.length ≤ 1000) && !fromB x)
theorem bad_ok {l : List (List Nat)} (h : (l.all badB) = true) (s : List Int) : ∀ d ∈ mD l, g_formula_from [d] s = .ex "InvalidText" s := by
  intro d hd
  obtain ⟨x, hx, rfl⟩ := List.mem_map.mp hd
  have q := List.all_eq_true.mp h x hx
  unfold badB at q
  simp only [Bool.and_eq_true, List.all_eq_true, decide_eq_true_eq, Bool.not_eq_true'] at q
  have w := from_ok q.2.1 (fun c hc => q.1 c hc) s
  rw [q.2.2, if_neg Bool.false_ne_true] at w
  exact w
theorem b1_ok : bs1.all badB = true := by decide +kernel
theorem b2_ok : bs2.all badB = true := by decide +kernel
theorem b3_ok : bs3.all badB = true := by decide +kernel
theorem b4_ok : bs4.all badB = true := by decide +kernel
theorem b5_ok : bs5.all badB = true := by decide +kernel
def bads (f : Fm) : List D := (([.non, .int 5] ++ mD bs1) ++ mD bs2) ++ mD bs3 ++ (mD bs4 ++ ([f.D, .lst [.str (mkS (tx f))], .bl true] ++ mD bs5))
theorem isi_fm (f : Fm) : isiD .str f.D = some false := by cases f <;> rfl
theorem bads_ok (f : Fm) (s : List Int) : ∀ d ∈ bads f, g_formula_from [d] s = .ex "InvalidText" s := by
  intro d hd
  unfold bads at hd
  simp only [List.mem_append] at hd
  rcases hd with (((h | h) | h) | h) | h | h | h
  · simp only [List.mem_cons, List.not_mem_nil, or_false] at h
    rcases h with rfl | rfl
    · exact from_not rfl
    · exact from_not rfl
  · exact bad_ok b1_ok s d h
  · exact bad_ok b2_ok s d h
  · exact bad_ok b3_ok s d h
  · exact bad_ok b4_ok s d h
  · simp only [List.mem_cons, List.not_mem_nil, or_false] at h
    rcases h with rfl | rfl | rfl
    · exact from_not (isi_fm f)
    · exact from_not rfl
    · exact from_not rfl
  · exact bad_ok b5_ok s d h
theorem bads_len (f : Fm) : (bads f).length = 35 := by unfold bads mD; simp [bs1, bs2, bs3, bs4, bs5]
def f0 : Fm := .bi .over (.nm 0) (.pw (.bi .plus (.nm 1) (.nu 3)) (-2))
theorem f0_ok : f0.ok := ⟨(by decide : 0 < 6), ⟨(by decide : 1 < 6), (by decide : (1 : Int) ≤ 3 ∧ (3 : Int) ≤ 9)⟩, by decide⟩
theorem f0_tx : ("(a / [(b + 3)]^-2)" : Str) = mkS (tx f0) := by decide +kernel
theorem ret_f {f : Fm} (ok : f.ok) (hd : f.dep ≤ 4) (s : List Int) : g__law_outcome [.int 0, .str (mkS (tx f))] s = .ok (.tup [.str "returned", f.D]) s := by
  have h := from_ok (l := tx f) (by have := tx_58 hd; omega) (tx_gd f ok) s
  rw [fromB_tx ok hd, if_pos rfl, rd_tx f 4 ok hd, ofF_D] at h
  exact out_good h
theorem law_ok {s : List Int} (t0 : Tw ns 0 s) : ∃ s', runs (c_law p) [.va (.scr ns), .va (.adr p), .no, .no, .no, .no, .no, .no, .no, .no, .no, .no] s = .rt (.bl true) s' := by
  obtain ⟨f, s1, e1, ok, hd, t1⟩ := formula_ok (p := p) 6 4 s 0 (by decide) (by decide) (by decide) t0 (by decide)
  have e1 : g__law_formula p 6 [.scr ns, .adr p, .int 4] s = .ok f.D s1 := e1
  have hL := tx_58 hd
  have hgL := tx_gd f ok
  obtain ⟨ρ', s2, hfor, y4, y7, y8, y9, y10, hρ, t2⟩ := forR_ind (e := fun (i : Nat) => D.int (i : Int)) (f := fun d ρ s => onO (asgT (.nm 4) d ρ) fun ρ' => runs (b_law_0 p) ρ' s)
    (P := fun (l : List Nat) ρ s => ∃ x4 x7 x8 x9 x10, ρ = rh p ns f x4 x7 x8 x9 x10 ∧ Tw ns (4096 + 3 * (10 - l.length)) s ∧ l.length ≤ 10) (by
      intro a l ρ s h
      obtain ⟨x4, x7, x8, x9, x10, rfl, t, hl⟩ := h
      rw [List.length_cons] at hl t
      obtain ⟨z7, z8, z9, z10, s', h1, h2⟩ := body_ok (p := p) ok hd (x4 := .va (.int (a : Int))) (x7 := x7) (x8 := x8) (x9 := x9) (x10 := x10) t (by omega)
      exact ⟨_, s', h1, _, z7, z8, z9, z10, rfl, h2.mono (by omega), by omega⟩) (List.range 10) (rh p ns f .no .no .no .no .no) s1 ⟨.no, .no, .no, .no, .no, rfl, t1.mono (by decide), by decide⟩
  subst hρ
  refine ⟨s2, ?_⟩
  unfold c_law
  refine seq_nx (run_asgq (x := (.v, f.D)) (ρ' := [.va (.scr ns), .va (.adr p), .va f.D, .no, .no, .no, .no, .no, .no, .no, .no, .no]) (s1 := s1) (by simp only [fnR, runs, run, ev, evA, evT, evI, bindq_ok, ob_ok, sq_nx, sq_rt, onO_some, liftO_some, kd_some, dat_v, dat_t, tru_bl, intOf_int, noExq, stk_v, stk_t, stk_o, stow_tt, stow_fv, stow_ft, eqD_int, cmp_ne, cmp_eq, cmp_gt, cmp_ge, cmp_lt, cmp_le, cmp_in, cmp_notin, cmp_is, cmp_isnot, bin_add, bin_sub, b1_abs, ix0, ix1, items_lst, items_row, put, List.map_cons, List.map_nil, List.cons_append, List.nil_append, List.append_nil, List.length_cons, List.length_nil, List.replicate, List.getElem?_cons_zero, List.getElem?_cons_succ, List.getElem?_nil, List.set_cons_zero, List.set_cons_succ, List.set_nil, Nat.reduceAdd, Nat.reduceSub, Nat.reduceLT, Nat.reduceEqDiff, if_true, ite_true, if_false, ite_false, Option.map_some, Option.map_none, reduceIte, reduceCtorEq, Bool.false_eq_true, Nat.zero_add, Nat.add_zero, Nat.zero_lt_succ, Nat.zero_lt_one, Nat.lt_add_left_iff_pos, Nat.succ_eq_add_one, Nat.reduceLeDiff, e1]) rfl rfl) ?_
  refine seq_asg (x := (.v, .str (mkS (tx f)))) (ρ' := rh p ns f .no .no .no .no .no) (by simp only [fnR, runs, run, ev, evA, evT, evI, bindq_ok, ob_ok, sq_nx, sq_rt, onO_some, liftO_some, kd_some, dat_v, dat_t, tru_bl, intOf_int, noExq, stk_v, stk_t, stk_o, stow_tt, stow_fv, stow_ft, eqD_int, cmp_ne, cmp_eq, cmp_gt, cmp_ge, cmp_lt, cmp_le, cmp_in, cmp_notin, cmp_is, cmp_isnot, bin_add, bin_sub, b1_abs, ix0, ix1, items_lst, items_row, put, List.map_cons, List.map_nil, List.cons_append, List.nil_append, List.append_nil, List.length_cons, List.length_nil, List.replicate, List.getElem?_cons_zero, List.getElem?_cons_succ, List.getElem?_nil, List.set_cons_zero, List.set_cons_succ, List.set_nil, Nat.reduceAdd, Nat.reduceSub, Nat.reduceLT, Nat.reduceEqDiff, if_true, ite_true, if_false, ite_false, Option.map_some, Option.map_none, reduceIte, reduceCtorEq, Bool.false_eq_true, Nat.zero_add, Nat.add_zero, Nat.zero_lt_succ, Nat.zero_lt_one, Nat.lt_add_left_iff_pos, Nat.succ_eq_add_one, Nat.reduceLeDiff, line_ok s1 6 f ok (by omega) (by omega)]) rfl rfl ?_
  have two := lenOk_of (show 2 ≤ 1000000 by decide)
  refine seq_iff (k3 := .v) (by simp only [rh, fnR, runs, run, ev, evA, evT, evI, bindq_ok, ob_ok, sq_nx, sq_rt, onO_some, liftO_some, kd_some, dat_v, dat_t, tru_bl, intOf_int, noExq, stk_v, stk_t, stk_o, stow_tt, stow_fv, stow_ft, eqD_int, cmp_ne, cmp_eq, cmp_gt, cmp_ge, cmp_lt, cmp_le, cmp_in, cmp_notin, cmp_is, cmp_isnot, bin_add, bin_sub, b1_abs, ix0, ix1, items_lst, items_row, put, List.map_cons, List.map_nil, List.cons_append, List.nil_append, List.append_nil, List.length_cons, List.length_nil, List.replicate, List.getElem?_cons_zero, List.getElem?_cons_succ, List.getElem?_nil, List.set_cons_zero, List.set_cons_succ, List.set_nil, Nat.reduceAdd, Nat.reduceSub, Nat.reduceLT, Nat.reduceEqDiff, if_true, ite_true, if_false, ite_false, Option.map_some, Option.map_none, reduceIte, reduceCtorEq, Bool.false_eq_true, Nat.zero_add, Nat.add_zero, Nat.zero_lt_succ, Nat.zero_lt_one, Nat.lt_add_left_iff_pos, Nat.succ_eq_add_one, Nat.reduceLeDiff, notation_ok ok hd, eqD_mk hgL hgL, decide_true, Bool.not_true, ret_f ok hd, two, eqD_refl (ret_sh ok hd)]) ?_
  refine seq_nx (run_forq (ds := (List.range 10).map fun (i : Nat) => D.int (i : Int)) (s1 := s1) (by kernel_rfl) hfor) ?_
  -- the refused ones
  refine seq_asg (x := (.t, .lst ([.non, .int 5] ++ mD bs1))) (ρ' := [.va (.scr ns), .va (.adr p), .va f.D, .va (.str (mkS (tx f))), y4, .va (.lst ([.non, .int 5] ++ mD bs1)), .no, y7, y8, y9, y10, .no]) (by kernel_rfl) rfl rfl ?_
  refine seq_asg (x := (.t, .lst (([.non, .int 5] ++ mD bs1) ++ mD bs2))) (ρ' := [.va (.scr ns), .va (.adr p), .va f.D, .va (.str (mkS (tx f))), y4, .va (.lst (([.non, .int 5] ++ mD bs1) ++ mD bs2)), .no, y7, y8, y9, y10, .no]) (by kernel_rfl) rfl rfl ?_
  refine seq_asg (x := (.t, .lst (([.non, .int 5] ++ mD bs1) ++ mD bs2 ++ mD bs3))) (ρ' := [.va (.scr ns), .va (.adr p), .va f.D, .va (.str (mkS (tx f))), y4, .va (.lst (([.non, .int 5] ++ mD bs1) ++ mD bs2 ++ mD bs3)), .no, y7, y8, y9, y10, .no]) (by kernel_rfl) rfl rfl ?_
  refine seq_asg (x := (.t, .lst (bads f))) (ρ' := [.va (.scr ns), .va (.adr p), .va f.D, .va (.str (mkS (tx f))), y4, .va (.lst (bads f)), .no, y7, y8, y9, y10, .no]) (by kernel_rfl) rfl rfl ?_
  have elc := ev_lcf (S := List Int) (s := s2) (it := .seq (.var 5)) (tg := .nm 11) (tt := .cmp .ne (.call "_law_outcome" 2 g__law_outcome (.cons (.con (.int 0)) (.cons (.var 11) .nil))) (.call "_law_raises" 1 g__law_raises (.cons (.con (.str "text")) .nil))) (elt := .var 11) (vs := [11])
    (ρ := [.va (.scr ns), .va (.adr p), .va f.D, .va (.str (mkS (tx f))), y4, .va (.lst (bads f)), .no, y7, y8, y9, y10, .no]) (l := bads f) (e := fun d => d) (g := fun d => d) (t := fun _ => false)
    (by rw [List.map_id']; simp only [fnR, runs, run, ev, evA, evT, evI, bindq_ok, ob_ok, sq_nx, sq_rt, onO_some, liftO_some, kd_some, dat_v, dat_t, tru_bl, intOf_int, noExq, stk_v, stk_t, stk_o, stow_tt, stow_fv, stow_ft, eqD_int, cmp_ne, cmp_eq, cmp_gt, cmp_ge, cmp_lt, cmp_le, cmp_in, cmp_notin, cmp_is, cmp_isnot, bin_add, bin_sub, b1_abs, ix0, ix1, items_lst, items_row, put, List.map_cons, List.map_nil, List.cons_append, List.nil_append, List.append_nil, List.length_cons, List.length_nil, List.replicate, List.getElem?_cons_zero, List.getElem?_cons_succ, List.getElem?_nil, List.set_cons_zero, List.set_cons_succ, List.set_nil, Nat.reduceAdd, Nat.reduceSub, Nat.reduceLT, Nat.reduceEqDiff, if_true, ite_true, if_false, ite_false, Option.map_some, Option.map_none, reduceIte, reduceCtorEq, Bool.false_eq_true, Nat.zero_add, Nat.add_zero, Nat.zero_lt_succ, Nat.zero_lt_one, Nat.lt_add_left_iff_pos, Nat.succ_eq_add_one, Nat.reduceLeDiff]) (by rw [bads_len]; decide) (fun d hdd => ⟨[.va (.scr ns), .va (.adr p), .va f.D, .va (.str (mkS (tx f))), y4, .va (.lst (bads f)), .no, y7, y8, y9, y10, .va d], rfl, ⟨.v, by
      have eb : eqD dBad dBad = some true := by kernel_rfl
      simp only [fnR, runs, run, ev, evA, evT, evI, bindq_ok, ob_ok, sq_nx, sq_rt, onO_some, liftO_some, kd_some, dat_v, dat_t, tru_bl, intOf_int, noExq, stk_v, stk_t, stk_o, stow_tt, stow_fv, stow_ft, eqD_int, cmp_ne, cmp_eq, cmp_gt, cmp_ge, cmp_lt, cmp_le, cmp_in, cmp_notin, cmp_is, cmp_isnot, bin_add, bin_sub, b1_abs, ix0, ix1, items_lst, items_row, put, List.map_cons, List.map_nil, List.cons_append, List.nil_append, List.append_nil, List.length_cons, List.length_nil, List.replicate, List.getElem?_cons_zero, List.getElem?_cons_succ, List.getElem?_nil, List.set_cons_zero, List.set_cons_succ, List.set_nil, Nat.reduceAdd, Nat.reduceSub, Nat.reduceLT, Nat.reduceEqDiff, if_true, ite_true, if_false, ite_false, Option.map_some, Option.map_none, reduceIte, reduceCtorEq, Bool.false_eq_true, Nat.zero_add, Nat.add_zero, Nat.zero_lt_succ, Nat.zero_lt_one, Nat.lt_add_left_iff_pos, Nat.succ_eq_add_one, Nat.reduceLeDiff, out_bad (bads_ok f s2 d hdd), raises_text, eb, Bool.not_true]⟩, fun z => nomatch z⟩)
  have ef : (bads f).filter (fun _ => false) = [] := by simp
  rw [ef] at elc
  have enil : eqD (.lst []) (.lst []) = some true := by kernel_rfl
  refine seq_iff (k3 := .v) (by
    rw [ev, elc]
    simp only [fnR, runs, run, ev, evA, evT, evI, bindq_ok, ob_ok, sq_nx, sq_rt, onO_some, liftO_some, kd_some, dat_v, dat_t, tru_bl, intOf_int, noExq, stk_v, stk_t, stk_o, stow_tt, stow_fv, stow_ft, eqD_int, cmp_ne, cmp_eq, cmp_gt, cmp_ge, cmp_lt, cmp_le, cmp_in, cmp_notin, cmp_is, cmp_isnot, bin_add, bin_sub, b1_abs, ix0, ix1, items_lst, items_row, put, List.map_cons, List.map_nil, List.cons_append, List.nil_append, List.append_nil, List.length_cons, List.length_nil, List.replicate, List.getElem?_cons_zero, List.getElem?_cons_succ, List.getElem?_nil, List.set_cons_zero, List.set_cons_succ, List.set_nil, Nat.reduceAdd, Nat.reduceSub, Nat.reduceLT, Nat.reduceEqDiff, if_true, ite_true, if_false, ite_false, Option.map_some, Option.map_none, reduceIte, reduceCtorEq, Bool.false_eq_true, Nat.zero_add, Nat.add_zero, Nat.zero_lt_succ, Nat.zero_lt_one, Nat.lt_add_left_iff_pos, Nat.succ_eq_add_one, Nat.reduceLeDiff, enil, Bool.not_true, lenOk_of (show 0 ≤ 1000000 by decide)]) ?_
  refine seq_asg (x := (.v, f0.D)) (ρ' := [.va (.scr ns), .va (.adr p), .va f.D, .va (.str (mkS (tx f))), y4, .va (.lst (bads f)), .va f0.D, y7, y8, y9, y10, .no]) (by kernel_rfl) rfl rfl ?_
  refine seq_ret (k := .v) ?_ nofun
  have r0 := ret_f f0_ok (by decide) s2
  simp only [fnR, runs, run, ev, evA, evT, evI, bindq_ok, ob_ok, sq_nx, sq_rt, onO_some, liftO_some, kd_some, dat_v, dat_t, tru_bl, intOf_int, noExq, stk_v, stk_t, stk_o, stow_tt, stow_fv, stow_ft, eqD_int, cmp_ne, cmp_eq, cmp_gt, cmp_ge, cmp_lt, cmp_le, cmp_in, cmp_notin, cmp_is, cmp_isnot, bin_add, bin_sub, b1_abs, ix0, ix1, items_lst, items_row, put, List.map_cons, List.map_nil, List.cons_append, List.nil_append, List.append_nil, List.length_cons, List.length_nil, List.replicate, List.getElem?_cons_zero, List.getElem?_cons_succ, List.getElem?_nil, List.set_cons_zero, List.set_cons_succ, List.set_nil, Nat.reduceAdd, Nat.reduceSub, Nat.reduceLT, Nat.reduceEqDiff, if_true, ite_true, if_false, ite_false, Option.map_some, Option.map_none, reduceIte, reduceCtorEq, Bool.false_eq_true, Nat.zero_add, Nat.add_zero, Nat.zero_lt_succ, Nat.zero_lt_one, Nat.lt_add_left_iff_pos, Nat.succ_eq_add_one, Nat.reduceLeDiff, f0_tx, r0, two, eqD_refl (ret_sh f0_ok (by decide))]
theorem main (ns : List Int) (hl : ns.length ≤ 63) : ∀ p, ∃ s', runs (c_law p) (.va (.scr ns) :: .va (.adr p) :: List.replicate (12 - 2) .no) (0 :: ns) = .rt (.bl true) s' := fun p => law_ok (Tw.zero hl)
end Mf
set_option Elab.async false
set_option linter.all false
set_option maxRecDepth 100000
set_option maxHeartbeats 4000000
namespace Mf
open PySem L2
def top (i : Nat) : Stmt := PySem.Challenge.pw_measureforms_k52_whole_notation.main.body.getD i (.Pass ⟨0, 0, 0, 0⟩)
abbrev s__law_town : Stmt := top 37
abbrev s__law_draw : Stmt := top 38
abbrev s__law_pick : Stmt := top 39
abbrev s__law_formula : Stmt := top 43
abbrev s__law_line : Stmt := top 45
abbrev s_split_place : Stmt := top 32
abbrev s_close_place : Stmt := top 33
abbrev s_read : Stmt := top 34
abbrev s_is_between : Stmt := top 21
abbrev s_is_name : Stmt := top 22
abbrev s_is_at_most : Stmt := top 23
abbrev s_is_formula : Stmt := top 24
abbrev s_text_of : Stmt := top 30
abbrev s_formula_from : Stmt := top 35
abbrev s__law_call : Stmt := top 44
abbrev s__law_name : Stmt := top 41
abbrev s__law_outcome : Stmt := top 40
abbrev s_check_formula : Stmt := top 25
abbrev s_notation : Stmt := top 31
abbrev s__law_raises : Stmt := top 42
abbrev s_law : Stmt := top 46
theorem sc__law_pick : FnScope ["script", "town", "choices"] ["script", "town", "choices"] (defScope s__law_pick) := ⟨rfl, rfl, rfl, by decide +kernel, rfl, by decide +kernel, by decide +kernel⟩
theorem k__law_pick (p : Addr) : chkSs ["script", "town", "choices"] (defScope s__law_pick) (c__law_pick p) (defBody s__law_pick) = true := by kernel_rfl
theorem sc__law_formula : FnScope ["script", "town", "deep", "way", "first", "name"] ["script", "town", "deep"] (defScope s__law_formula) := ⟨rfl, rfl, rfl, by decide +kernel, rfl, by decide +kernel, by decide +kernel⟩
theorem k__law_formula (p : Addr) (self : Sem (List Int)) : chkSs ["script", "town", "deep", "way", "first", "name"] (defScope s__law_formula) (c__law_formula p self) (defBody s__law_formula) = true := by kernel_rfl
theorem sc__law_line : FnScope ["formula", "name", "sign"] ["formula"] (defScope s__law_line) := ⟨rfl, rfl, rfl, by decide +kernel, rfl, by decide +kernel, by decide +kernel⟩
theorem k__law_line (self : Sem (List Int)) : chkSs ["formula", "name", "sign"] (defScope s__law_line) (c__law_line self) (defBody s__law_line) = true := by kernel_rfl
theorem sc_split_place : FnScope ["text", "deep", "place", "sign"] ["text"] (defScope s_split_place) := ⟨rfl, rfl, rfl, by decide +kernel, rfl, by decide +kernel, by decide +kernel⟩
theorem k_split_place : chkSs ["text", "deep", "place", "sign"] (defScope s_split_place) (c_split_place) (defBody s_split_place) = true := by kernel_rfl
theorem sc_close_place : FnScope ["text", "deep", "place", "sign"] ["text"] (defScope s_close_place) := ⟨rfl, rfl, rfl, by decide +kernel, rfl, by decide +kernel, by decide +kernel⟩
theorem k_close_place : chkSs ["text", "deep", "place", "sign"] (defScope s_close_place) (c_close_place) (defBody s_close_place) = true := by kernel_rfl
theorem sc_read : FnScope ["text", "deep", "place", "name"] ["text", "deep"] (defScope s_read) := ⟨rfl, rfl, rfl, by decide +kernel, rfl, by decide +kernel, by decide +kernel⟩
theorem k_read (self : Sem (List Int)) : chkSs ["text", "deep", "place", "name"] (defScope s_read) (c_read self) (defBody s_read) = true := by kernel_rfl
theorem sc_is_between : FnScope ["value", "low", "high"] ["value", "low", "high"] (defScope s_is_between) := ⟨rfl, rfl, rfl, by decide +kernel, rfl, by decide +kernel, by decide +kernel⟩
theorem k_is_between : chkSs ["value", "low", "high"] (defScope s_is_between) (c_is_between) (defBody s_is_between) = true := by kernel_rfl
theorem sc_is_name : FnScope ["value"] ["value"] (defScope s_is_name) := ⟨rfl, rfl, rfl, by decide +kernel, rfl, by decide +kernel, by decide +kernel⟩
theorem k_is_name : chkSs ["value"] (defScope s_is_name) (c_is_name) (defBody s_is_name) = true := by kernel_rfl
theorem sc_is_at_most : FnScope ["value", "deep", "name"] ["value", "deep"] (defScope s_is_at_most) := ⟨rfl, rfl, rfl, by decide +kernel, rfl, by decide +kernel, by decide +kernel⟩
theorem k_is_at_most (self : Sem (List Int)) : chkSs ["value", "deep", "name"] (defScope s_is_at_most) (c_is_at_most self) (defBody s_is_at_most) = true := by kernel_rfl
theorem sc_is_formula : FnScope ["value"] ["value"] (defScope s_is_formula) := ⟨rfl, rfl, rfl, by decide +kernel, rfl, by decide +kernel, by decide +kernel⟩
theorem k_is_formula : chkSs ["value"] (defScope s_is_formula) (c_is_formula) (defBody s_is_formula) = true := by kernel_rfl
theorem sc_text_of : FnScope ["formula", "name", "first"] ["formula"] (defScope s_text_of) := ⟨rfl, rfl, rfl, by decide +kernel, rfl, by decide +kernel, by decide +kernel⟩
theorem k_text_of (self : Sem (List Int)) : chkSs ["formula", "name", "first"] (defScope s_text_of) (c_text_of self) (defBody s_text_of) = true := by kernel_rfl
theorem sc_formula_from : FnScope ["text", "found"] ["text"] (defScope s_formula_from) := ⟨rfl, rfl, rfl, by decide +kernel, rfl, by decide +kernel, by decide +kernel⟩
theorem k_formula_from : chkSs ["text", "found"] (defScope s_formula_from) (c_formula_from) (defBody s_formula_from) = true := by kernel_rfl
theorem sc__law_call : FnScope ["way", "arguments"] ["way", "arguments"] (defScope s__law_call) := ⟨rfl, rfl, rfl, by decide +kernel, rfl, by decide +kernel, by decide +kernel⟩
theorem k__law_call : chkSs ["way", "arguments"] (defScope s__law_call) (c__law_call) (defBody s__law_call) = true := by kernel_rfl
theorem sc__law_name : FnScope ["caught", "found"] ["caught"] (defScope s__law_name) := ⟨rfl, rfl, rfl, by decide +kernel, rfl, by decide +kernel, by decide +kernel⟩
theorem k__law_name : chkSs ["caught", "found"] (defScope s__law_name) (c__law_name) (defBody s__law_name) = true := by kernel_rfl
theorem sc__law_outcome : FnScope ["way", "arguments", "caught", "result", "error"] ["way", "arguments"] (defScope s__law_outcome) := ⟨rfl, rfl, rfl, by decide +kernel, rfl, by decide +kernel, by decide +kernel⟩
theorem k__law_outcome : chkSs ["way", "arguments", "caught", "result", "error"] (defScope s__law_outcome) (c__law_outcome) (defBody s__law_outcome) = true := by kernel_rfl
theorem sc_check_formula : FnScope ["value"] ["value"] (defScope s_check_formula) := ⟨rfl, rfl, rfl, by decide +kernel, rfl, by decide +kernel, by decide +kernel⟩
theorem k_check_formula : chkSs ["value"] (defScope s_check_formula) (c_check_formula) (defBody s_check_formula) = true := by kernel_rfl
theorem sc_notation : FnScope ["formula"] ["formula"] (defScope s_notation) := ⟨rfl, rfl, rfl, by decide +kernel, rfl, by decide +kernel, by decide +kernel⟩
theorem k_notation : chkSs ["formula"] (defScope s_notation) (c_notation) (defBody s_notation) = true := by kernel_rfl
theorem sc__law_raises : FnScope ["name", "names"] ["name"] (defScope s__law_raises) := ⟨rfl, rfl, rfl, by decide +kernel, rfl, by decide +kernel, by decide +kernel⟩
theorem k__law_raises : chkSs ["name", "names"] (defScope s__law_raises) (c__law_raises) (defBody s__law_raises) = true := by kernel_rfl
theorem sc_law : FnScope ["script", "town", "formula", "line", "k", "bads", "due", "at", "sign", "other", "told", "bad"] ["script"] (defScope s_law) := ⟨rfl, rfl, rfl, by decide +kernel, rfl, by decide +kernel, by decide +kernel⟩
theorem k_law (p : Addr) : chkSs ["script", "town", "formula", "line", "k", "bads", "due", "at", "sign", "other", "told", "bad"] (defScope s_law) (c_law p) (defBody s_law).tail = true := by kernel_rfl
section
variable {P : Program} {w : World} {K : PySem.W.Frag} {mg : Str → Option Value} {base : Heap} {n : Nat} {p C : Addr}
theorem H__law_pick (D : DefAt K mg "_law_pick" s__law_pick) (blt : ∀ y ∈ bltNames, mg y = none) (h__law_draw : Has P w K mg base (townSys p) n "_law_draw" 3 (g__law_draw p))   : Has P w K mg base (townSys p) (n + 1) "_law_pick" 3 (g__law_pick p) := by
  obtain ⟨f, fd, F, hm⟩ := D
  exact fn_sound F sc__law_pick hm (F.binds (ps := ["script", "town", "choices"]) fun _ _ _ _ _ _ us hl => match us, hl with | [_, _, _], _ => rfl) blt (k__law_pick p) (by unfold c__law_pick; repeat' (first | exact True.intro | assumption | apply And.intro))
theorem H__law_formula (D : DefAt K mg "_law_formula" s__law_formula) (blt : ∀ y ∈ bltNames, mg y = none) (h__law_draw : Has P w K mg base (townSys p) n "_law_draw" 3 (g__law_draw p)) (h__law_pick : Has P w K mg base (townSys p) n "_law_pick" 3 (g__law_pick p))   : ∀ k, Has P w K mg base (townSys p) (n + 1 + k) "_law_formula" 3 (g__law_formula p k) := by
  obtain ⟨f, fd, F, hm⟩ := D
  have hb := F.binds (ps := ["script", "town", "deep"]) fun _ _ _ _ _ _ us hl => match us, hl with | [_, _, _], _ => rfl
  intro k
  induction k with
  | zero => exact never_sound F sc__law_formula hm hb
  | succ k ih =>
    have h__law_draw := h__law_draw.mono (show n ≤ n + 1 + k by omega); have h__law_pick := h__law_pick.mono (show n ≤ n + 1 + k by omega);
    exact fn_sound F sc__law_formula hm hb blt (k__law_formula p (g__law_formula p k)) (by unfold c__law_formula; repeat' (first | exact True.intro | assumption | apply And.intro))
theorem H__law_line (D : DefAt K mg "_law_line" s__law_line) (blt : ∀ y ∈ bltNames, mg y = none)    : ∀ k, Has P w K mg base (townSys p) (n + 1 + k) "_law_line" 1 (g__law_line k) := by
  obtain ⟨f, fd, F, hm⟩ := D
  have hb := F.binds (ps := ["formula"]) fun _ _ _ _ _ _ us hl => match us, hl with | [_], _ => rfl
  intro k
  induction k with
  | zero => exact never_sound F sc__law_line hm hb
  | succ k ih =>
    
    exact fn_sound F sc__law_line hm hb blt (k__law_line (g__law_line k)) (by unfold c__law_line; repeat' (first | exact True.intro | assumption | apply And.intro))
theorem H_split_place (D : DefAt K mg "split_place" s_split_place) (blt : ∀ y ∈ bltNames, mg y = none)    : Has P w K mg base (townSys p) (n + 1) "split_place" 1 g_split_place := by
  obtain ⟨f, fd, F, hm⟩ := D
  exact fn_sound F sc_split_place hm (F.binds (ps := ["text"]) fun _ _ _ _ _ _ us hl => match us, hl with | [_], _ => rfl) blt (k_split_place) (by unfold c_split_place; repeat' (first | exact True.intro | assumption | apply And.intro))
theorem H_close_place (D : DefAt K mg "close_place" s_close_place) (blt : ∀ y ∈ bltNames, mg y = none)    : Has P w K mg base (townSys p) (n + 1) "close_place" 1 g_close_place := by
  obtain ⟨f, fd, F, hm⟩ := D
  exact fn_sound F sc_close_place hm (F.binds (ps := ["text"]) fun _ _ _ _ _ _ us hl => match us, hl with | [_], _ => rfl) blt (k_close_place) (by unfold c_close_place; repeat' (first | exact True.intro | assumption | apply And.intro))
theorem H_read (D : DefAt K mg "read" s_read) (blt : ∀ y ∈ bltNames, mg y = none) (h_split_place : Has P w K mg base (townSys p) n "split_place" 1 g_split_place) (h_close_place : Has P w K mg base (townSys p) n "close_place" 1 g_close_place)  (gl_NAMES : Glb K mg "NAMES" d_NAMES) (gl_WORDS : Glb K mg "WORDS" d_WORDS) (gl_NUMBERS : Glb K mg "NUMBERS" d_NUMBERS) : ∀ k, Has P w K mg base (townSys p) (n + 1 + k) "read" 2 (g_read k) := by
  obtain ⟨f, fd, F, hm⟩ := D
  have hb := F.binds (ps := ["text", "deep"]) fun _ _ _ _ _ _ us hl => match us, hl with | [_, _], _ => rfl
  intro k
  induction k with
  | zero => exact never_sound F sc_read hm hb
  | succ k ih =>
    have h_split_place := h_split_place.mono (show n ≤ n + 1 + k by omega); have h_close_place := h_close_place.mono (show n ≤ n + 1 + k by omega);
    exact fn_sound F sc_read hm hb blt (k_read (g_read k)) (by unfold c_read; repeat' (first | exact True.intro | assumption | apply And.intro))
theorem H_is_between (D : DefAt K mg "is_between" s_is_between) (blt : ∀ y ∈ bltNames, mg y = none)    : Has P w K mg base (townSys p) (n + 1) "is_between" 3 g_is_between := by
  obtain ⟨f, fd, F, hm⟩ := D
  exact fn_sound F sc_is_between hm (F.binds (ps := ["value", "low", "high"]) fun _ _ _ _ _ _ us hl => match us, hl with | [_, _, _], _ => rfl) blt (k_is_between) (by unfold c_is_between; repeat' (first | exact True.intro | assumption | apply And.intro))
theorem H_is_name (D : DefAt K mg "is_name" s_is_name) (blt : ∀ y ∈ bltNames, mg y = none)   (gl_NAMES : Glb K mg "NAMES" d_NAMES) : Has P w K mg base (townSys p) (n + 1) "is_name" 1 g_is_name := by
  obtain ⟨f, fd, F, hm⟩ := D
  exact fn_sound F sc_is_name hm (F.binds (ps := ["value"]) fun _ _ _ _ _ _ us hl => match us, hl with | [_], _ => rfl) blt (k_is_name) (by unfold c_is_name; repeat' (first | exact True.intro | assumption | apply And.intro))
theorem H_is_at_most (D : DefAt K mg "is_at_most" s_is_at_most) (blt : ∀ y ∈ bltNames, mg y = none) (h_is_between : Has P w K mg base (townSys p) n "is_between" 3 g_is_between) (h_is_name : Has P w K mg base (townSys p) n "is_name" 1 g_is_name)   : ∀ k, Has P w K mg base (townSys p) (n + 1 + k) "is_at_most" 2 (g_is_at_most k) := by
  obtain ⟨f, fd, F, hm⟩ := D
  have hb := F.binds (ps := ["value", "deep"]) fun _ _ _ _ _ _ us hl => match us, hl with | [_, _], _ => rfl
  intro k
  induction k with
  | zero => exact never_sound F sc_is_at_most hm hb
  | succ k ih =>
    have h_is_between := h_is_between.mono (show n ≤ n + 1 + k by omega); have h_is_name := h_is_name.mono (show n ≤ n + 1 + k by omega);
    exact fn_sound F sc_is_at_most hm hb blt (k_is_at_most (g_is_at_most k)) (by unfold c_is_at_most; repeat' (first | exact True.intro | assumption | apply And.intro))
theorem H_is_formula (D : DefAt K mg "is_formula" s_is_formula) (blt : ∀ y ∈ bltNames, mg y = none) (h_is_at_most : Has P w K mg base (townSys p) n "is_at_most" 2 (g_is_at_most 6))   : Has P w K mg base (townSys p) (n + 1) "is_formula" 1 g_is_formula := by
  obtain ⟨f, fd, F, hm⟩ := D
  exact fn_sound F sc_is_formula hm (F.binds (ps := ["value"]) fun _ _ _ _ _ _ us hl => match us, hl with | [_], _ => rfl) blt (k_is_formula) (by unfold c_is_formula; repeat' (first | exact True.intro | assumption | apply And.intro))
theorem H_text_of (D : DefAt K mg "text_of" s_text_of) (blt : ∀ y ∈ bltNames, mg y = none)   (gl_SIGNS : Glb K mg "SIGNS" d_SIGNS) : ∀ k, Has P w K mg base (townSys p) (n + 1 + k) "text_of" 1 (g_text_of k) := by
  obtain ⟨f, fd, F, hm⟩ := D
  have hb := F.binds (ps := ["formula"]) fun _ _ _ _ _ _ us hl => match us, hl with | [_], _ => rfl
  intro k
  induction k with
  | zero => exact never_sound F sc_text_of hm hb
  | succ k ih =>
    
    exact fn_sound F sc_text_of hm hb blt (k_text_of (g_text_of k)) (by unfold c_text_of; repeat' (first | exact True.intro | assumption | apply And.intro))
theorem H_formula_from (D : DefAt K mg "formula_from" s_formula_from) (blt : ∀ y ∈ bltNames, mg y = none) (h_read : Has P w K mg base (townSys p) n "read" 2 (g_read 6)) (h_is_formula : Has P w K mg base (townSys p) n "is_formula" 1 g_is_formula) (h_text_of : Has P w K mg base (townSys p) n "text_of" 1 (g_text_of 6))  (gl_InvalidText : Glb K mg "InvalidText" d_EXC) : Has P w K mg base (townSys p) (n + 1) "formula_from" 1 g_formula_from := by
  obtain ⟨f, fd, F, hm⟩ := D
  exact fn_sound F sc_formula_from hm (F.binds (ps := ["text"]) fun _ _ _ _ _ _ us hl => match us, hl with | [_], _ => rfl) blt (k_formula_from) (by unfold c_formula_from; repeat' (first | exact True.intro | assumption | apply And.intro))
theorem H__law_call (D : DefAt K mg "_law_call" s__law_call) (blt : ∀ y ∈ bltNames, mg y = none) (h_formula_from : Has P w K mg base (townSys p) n "formula_from" 1 g_formula_from)   : Has P w K mg base (townSys p) (n + 1) "_law_call" 2 g__law_call := by
  obtain ⟨f, fd, F, hm⟩ := D
  exact fn_sound F sc__law_call hm (F.binds (ps := ["way", "arguments"]) fun _ _ _ _ _ _ us hl => match us, hl with | [_, _], _ => rfl) blt (k__law_call) (by unfold c__law_call; repeat' (first | exact True.intro | assumption | apply And.intro))
theorem H__law_name (D : DefAt K mg "_law_name" s__law_name) (blt : ∀ y ∈ bltNames, mg y = none)   (gl_ValueError : Glb K mg "ValueError" d_EXC) (gl_InvalidFormula : Glb K mg "InvalidFormula" d_EXC) (gl_InvalidStatement : Glb K mg "InvalidStatement" d_EXC) (gl_InvalidStatements : Glb K mg "InvalidStatements" d_EXC) (gl_InvalidTable : Glb K mg "InvalidTable" d_EXC) (gl_InvalidName : Glb K mg "InvalidName" d_EXC) (gl_InvalidMeasure : Glb K mg "InvalidMeasure" d_EXC) (gl_InvalidFactors : Glb K mg "InvalidFactors" d_EXC) (gl_InvalidNumbers : Glb K mg "InvalidNumbers" d_EXC) (gl_InvalidText : Glb K mg "InvalidText" d_EXC) (gl_Unknown : Glb K mg "Unknown" d_EXC) (gl_Clash : Glb K mg "Clash" d_EXC) (gl_NoCompletion : Glb K mg "NoCompletion" d_EXC) (gl_NotWhole : Glb K mg "NotWhole" d_EXC) (gl_NoValue : Glb K mg "NoValue" d_EXC) (gl_TooMany : Glb K mg "TooMany" d_EXC) (gl_AlreadyKnown : Glb K mg "AlreadyKnown" d_EXC) (gl_NothingToUndo : Glb K mg "NothingToUndo" d_EXC) : Has P w K mg base (townSys p) (n + 1) "_law_name" 1 g__law_name := by
  obtain ⟨f, fd, F, hm⟩ := D
  exact fn_sound F sc__law_name hm (F.binds (ps := ["caught"]) fun _ _ _ _ _ _ us hl => match us, hl with | [_], _ => rfl) blt (k__law_name) (by unfold c__law_name; repeat' (first | exact True.intro | assumption | apply And.intro))
theorem H__law_outcome (D : DefAt K mg "_law_outcome" s__law_outcome) (blt : ∀ y ∈ bltNames, mg y = none) (h__law_call : Has P w K mg base (townSys p) n "_law_call" 2 g__law_call) (h__law_name : Has P w K mg base (townSys p) n "_law_name" 1 g__law_name)  (gl_EXC : Glb K mg "EXC" d_EXC) : Has P w K mg base (townSys p) (n + 1) "_law_outcome" 2 g__law_outcome := by
  obtain ⟨f, fd, F, hm⟩ := D
  exact fn_sound F sc__law_outcome hm (F.binds (ps := ["way", "arguments"]) fun _ _ _ _ _ _ us hl => match us, hl with | [_, _], _ => rfl) blt (k__law_outcome) (by unfold c__law_outcome; repeat' (first | exact True.intro | assumption | apply And.intro))
theorem H_check_formula (D : DefAt K mg "check_formula" s_check_formula) (blt : ∀ y ∈ bltNames, mg y = none) (h_is_formula : Has P w K mg base (townSys p) n "is_formula" 1 g_is_formula)   : Has P w K mg base (townSys p) (n + 1) "check_formula" 1 g_check_formula := by
  obtain ⟨f, fd, F, hm⟩ := D
  exact fn_sound F sc_check_formula hm (F.binds (ps := ["value"]) fun _ _ _ _ _ _ us hl => match us, hl with | [_], _ => rfl) blt (k_check_formula) (by unfold c_check_formula; repeat' (first | exact True.intro | assumption | apply And.intro))
theorem H_notation (D : DefAt K mg "notation" s_notation) (blt : ∀ y ∈ bltNames, mg y = none) (h_check_formula : Has P w K mg base (townSys p) n "check_formula" 1 g_check_formula) (h_text_of : Has P w K mg base (townSys p) n "text_of" 1 (g_text_of 6))   : Has P w K mg base (townSys p) (n + 1) "notation" 1 g_notation := by
  obtain ⟨f, fd, F, hm⟩ := D
  exact fn_sound F sc_notation hm (F.binds (ps := ["formula"]) fun _ _ _ _ _ _ us hl => match us, hl with | [_], _ => rfl) blt (k_notation) (by unfold c_notation; repeat' (first | exact True.intro | assumption | apply And.intro))
theorem H__law_raises (D : DefAt K mg "_law_raises" s__law_raises) (blt : ∀ y ∈ bltNames, mg y = none)    : Has P w K mg base (townSys p) (n + 1) "_law_raises" 1 g__law_raises := by
  obtain ⟨f, fd, F, hm⟩ := D
  exact fn_sound F sc__law_raises hm (F.binds (ps := ["name"]) fun _ _ _ _ _ _ us hl => match us, hl with | [_], _ => rfl) blt (k__law_raises) (by unfold c__law_raises; repeat' (first | exact True.intro | assumption | apply And.intro))
end
theorem sc__law_draw : FnScope ["script", "town", "limit", "at", "left", "number"] ["script", "town", "limit"] (defScope s__law_draw) := ⟨rfl, rfl, rfl, by decide +kernel, rfl, by decide +kernel, by decide +kernel⟩
theorem sc__law_town : FnScope ["script"] ["script"] (defScope s__law_town) := ⟨rfl, rfl, rfl, by decide +kernel, rfl, by decide +kernel, by decide +kernel⟩
section
variable {P : Program} {w : World} {K : PySem.W.Frag} {mg : Str → Option Value} {base : Heap} {f : Addr} {fd : FuncData} {p : Addr}
theorem ixN_nat {n j : Nat} (h : j < n) : ixN n (j : Int) = some j := by
  have e := atI_nat (xs := List.range n) (j := j) (v := j) (by rw [List.getElem?_range h])
  unfold atI at e
  rw [List.length_range] at e
  cases hj : ixN n (j : Int) with
  | none => rw [hj] at e; cases e
  | some i =>
    rw [hj] at e
    have e : (List.range n)[i]? = some j := e
    obtain ⟨h1, h2⟩ := List.getElem?_eq_some_iff.mp e
    rw [List.getElem_range] at h2
    rw [h2]
theorem g_draw_cases (p : Addr) (ds : List D) (t : List Int) : (∃ ns m k rest, ds = [.scr ns, .adr p, .int m] ∧ t = k :: rest ∧ 0 < m ∧ m < 1000000 ∧ 0 ≤ k ∧ k < 1000000000 ∧ rest.length = ns.length ∧ ns.length ≤ 63 ∧ g_draw p ds t = .ok (.int (dr ns k rest m).1) (dr ns k rest m).2) ∨ g_draw p ds t = .er := by
  unfold g_draw
  split
  · split
    · rename_i hc
      obtain ⟨rfl, h⟩ := hc
      exact .inl ⟨_, _, _, _, rfl, rfl, h.1, h.2.1, h.2.2.1, h.2.2.2.1, h.2.2.2.2.1, h.2.2.2.2.2, rfl⟩
    · exact .inr rfl
  · exact .inr rfl
theorem ok_draw (F : Fun K "_law_draw" "_law_draw" s__law_draw f fd) (ml : mg "len" = none) : FnOk P w K mg base (L2.CX P w) 1 f fd ["script", "town", "limit"] (spOf (Y := townSys p) K mg 3 (g_draw p)) := by
  refine F.okX sc__law_draw (fun vs H Q E h => ?_) (fun cdv A outer s H vs Q E hr h => ?_)
  · obtain ⟨c, ds, _, _, _, h, _⟩ := h
    exact h
  · refine ⟨_, pss_cons (ps_asg (pe_op op_add (pe_ix ix_list (pv 1) pe_int (fun _ _ => rfl)) pe_int) (pg_sub (pv 1) pe_int set_list))
      (pss_cons (ps_if (pt_cmpR (op_eqD hr.units) (pv 0) (pe_lst pa_nil) (nomark _)) (pss_one (ps_ret (pe_op op_modN (pe_op op_fdivV (pe_op op_mul (pe_op op_mul (pe_ix ix_list (pv 1) pe_int (fun _ _ => rfl)) (pe_ix ix_list (pv 1) pe_int (fun _ _ => rfl))) pe_int) pe_int) (pv 2)))) pss_nil)
      (pss_cons (ps_set (i := 3) sc__law_draw.nd rfl (Or.inl rfl) (pe_op op_modN (pe_ix ix_list (pv 1) pe_int (fun _ _ => rfl)) (pe_callB call_len_seq rfl ml PySem.boot_len (pa_cons (pv 0) pa_nil))))
      (pss_cons (ps_set (i := 4) sc__law_draw.nd rfl (Or.inl rfl) (pe_ix ix_list (pv 1) (pe_op op_add pe_int (pv 3)) (fun _ _ => rfl)))
      (pss_cons (ps_if (PW.pt (pw_and (pt_cmpR op_ge (pe_ix ix_list (pv 0) (pv 3) (fun _ _ => rfl)) (pe_op op_pow pe_int pe_int) (nomark _)) (pw_and1 (pt_cmpR op_gt (pv 4) pe_int (nomark _)))))
        (pss_cons (ps_asg (pe_op op_fdivV (pv 4) (pv 2)) (pg_sub (pv 1) (pe_op op_add pe_int (pv 3)) set_list)) (pss_one (ps_ret (pe_op op_modN (pv 4) (pv 2))))) pss_nil)
      (pss_cons (ps_set (i := 5) sc__law_draw.nd rfl (Or.inl rfl) (pe_op op_modN (pe_op op_add (pe_ix ix_list (pv 0) (pv 3) (fun _ _ => rfl)) (pe_op op_mul pe_int (pe_ix ix_list (pv 1) pe_int (fun _ _ => rfl)))) pe_int))
      (pss_cons (ps_set (i := 5) sc__law_draw.nd rfl (Or.inl rfl) (pe_op op_modN (pe_op op_pow (pv 5) pe_int) pe_int))
      (pss_one (ps_ret (pe_op op_modN (pe_op op_fdivV (pe_op op_modN (pe_op op_add (pe_op op_mul (pe_op op_fdivV (pv 5) pe_int) pe_int) (pv 5)) pe_int) pe_int) (pv 2)))))))))), ?_⟩
    obtain ⟨c, ds, rfl, ok, rs, hl, h⟩ := h
    have cel0 : c.H p = some (.lst (c.s.map V.int)) := ok.cel
    rcases g_draw_cases p ds c.s with ⟨ns, m, k, rest, rfl, ht, hm0, hm1, hk0, hk1, hlen, h63, er⟩ | er
    rotate_left
    · rw [er] at h
      exact h.elim
    rw [er] at h
    rw [ht] at cel0
    have h : ∀ v (c' : Cf (townSys p)), c'.s = (dr ns k rest m).2 → Step c c' → Ok c' → Rep K c'.F v (.int (dr ns k rest m).1) → Q v c'.H := h
    cases rs with
    | cons r1 rs =>
    cases rs with
    | cons r2 rs =>
    cases rs with
    | cons r3 rs =>
    cases rs
    cases r1 with
    | @scr a _ hS =>
    cases r2
    cases r3
    have cel : c.H p = some (.lst ((k :: rest).map V.int)) := cel0
    have hm' : m ≠ 0 := by omega
    have hmd : CDivV 0 m := ⟨hm', by
      have : m.natAbs < 2 ^ 20 := by omega
      have := (Nat.log2_lt (by omega)).mpr this
      omega⟩
    refine ⟨.ref p, rfl, p, _, 0, .int k, rfl, rfl, .inl (.inl cel), atI_nat (j := 0) rfl, k, 1, rfl, rfl, .ref p, rfl, p, _, 0, 0, rfl, rfl, cel, ixN_nat (by simp), ?_⟩
    show tSeq _ _ _ _ (upd c.H p (.lst (((k + 1) :: rest).map V.int)))
    obtain ⟨ok1, st1⟩ := town_new (K := K) ok ((k + 1) :: rest) (upd c.H p (.lst (((k + 1) :: rest).map V.int))) (fun a ha => upd_ne ha) upd_same
    have allI : ∀ (H : Hp) (l : List Int), DpAll K H (l.map V.int) (l.map PyData.int) := fun H l => by
      induction l with
      | nil => exact .nil
      | cons x l ih => exact .cons (.int x) ih
    have ishp : ∀ l : List Int, SeqAt.shaped (.list (l.map PyData.int)) = true := fun l => by
      have h1 : ∀ l : List Int, PyData.canLayAll0 (l.map PyData.int) = true ∧ PyData.depthAll (l.map PyData.int) = 0 := fun l => by
        induction l with
        | nil => exact ⟨rfl, rfl⟩
        | cons x l ih => exact ⟨Bool.and_eq_true_iff.mpr ⟨rfl, ih.1⟩, by show max 0 (PyData.depthAll (l.map PyData.int)) = 0; rw [ih.2]; rfl⟩
      refine Bool.and_eq_true_iff.mpr ⟨(h1 l).1, decide_eq_true ?_⟩
      show PyData.depthAll (l.map PyData.int) + 1 ≤ 64
      rw [(h1 l).2]
      decide
    refine ⟨.ref a, rfl, by show 0 ≤ sizeLine; decide, fun l hl0 => ?_⟩
    have ok2 := ok1.own hl0 (.lst [])
    have st2 : Step c _ := st1.trans ok1 (Step.own ok1 hl0 (.lst []))
    have hS2 : SqL K (upd (upd c.H p (.lst (((k + 1) :: rest).map V.int))) l (.lst [])) a (ns.map V.int) := sqL_sub ok2.sub hS
    have hq2 : upd (upd c.H p (.lst (((k + 1) :: rest).map V.int))) l (.lst []) p = some (.lst (((k + 1) :: rest).map V.int)) := ok2.cel
    refine ⟨_, _, .lst hS2 (allI _ ns), .lst (.inl (.inl upd_same)) .nil, ishp ns, ishp [], _, rfl, ?_⟩
    have fin : ∀ (d : Int), (dr ns k rest m) = (d, (k + 1) :: rest) → Q (.int d) (upd (upd c.H p (.lst (((k + 1) :: rest).map V.int))) l (.lst [])) := fun d e => by
      refine h (.int d) ⟨c.F, upd (upd c.H p (.lst (((k + 1) :: rest).map V.int))) l (.lst []), (k + 1) :: rest, c.g⟩ ?_ st2 ok2 ?_
      · rw [e]
      · rw [e]; exact .int d
    cases ns with
    | nil =>
      refine iteT ?_
      refine ⟨.ref p, rfl, p, _, 0, .int (k + 1), rfl, rfl, .inl (.inl hq2), atI_nat (j := 0) rfl, .ref p, rfl, p, _, 0, .int (k + 1), rfl, rfl, .inl (.inl hq2), atI_nat (j := 0) rfl, _, _, rfl, rfl, .inl ⟨by omega, by omega⟩, _, _, rfl, rfl, .inr ⟨by decide, by decide⟩, _, _, rfl, rfl, ⟨by decide, by decide +kernel⟩, .int m, rfl, _, _, rfl, rfl, hm', ?_⟩
      exact fin _ rfl
    | cons n0 ns0 =>
      refine iteF ?_
      have hn : (((n0 :: ns0).map V.int).length : Int) ≠ 0 := by simp; omega
      have hn1 : ((n0 :: ns0).map V.int).length = (n0 :: ns0).length := List.length_map ..
      obtain ⟨a', ha'⟩ : ∃ a' : Nat, (k + 1).fmod (((n0 :: ns0).map V.int).length : Int) = (a' : Int) := Int.eq_ofNat_of_zero_le (Int.fmod_nonneg_of_pos _ (by simp))
      have hlt : a' < (n0 :: ns0).length := by
        have := Int.fmod_lt_of_pos (k + 1) (show (0 : Int) < (((n0 :: ns0).map V.int).length : Int) by simp)
        rw [ha', hn1] at this
        omega
      have hat : ((k + 1).fmod ((n0 :: ns0).length : Int)).toNat = a' := by rw [← hn1, ha']; rfl
      refine ⟨.ref p, rfl, p, _, 0, .int (k + 1), rfl, rfl, .inl (.inl hq2), atI_nat (j := 0) rfl, .ref a, rfl, a, _, rfl, .inl hS2, _, _, rfl, rfl, hn, ?_⟩
      show tSeq _ _ _ [some (.ref a), some (.ref p), some (.int m), some (.int ((k + 1).fmod (((n0 :: ns0).map V.int).length : Int))), none, none] _
      rw [ha']
      have hl1 : a' < rest.length := by omega
      have e1 : rest.getD a' 0 = rest[a'] := by rw [List.getD_eq_getElem?_getD, List.getElem?_eq_getElem hl1]; rfl
      have e2 : (n0 :: ns0).getD a' 0 = (n0 :: ns0)[a'] := by rw [List.getD_eq_getElem?_getD, List.getElem?_eq_getElem hlt]; rfl
      have g1 : atI (((k + 1) :: rest).map V.int) (1 + (a' : Int)) = some (.int (rest.getD a' 0)) := by
        have : (1 : Int) + (a' : Int) = ((a' + 1 : Nat) : Int) := by omega
        rw [this]
        refine atI_nat ?_
        rw [List.map_cons, List.getElem?_cons_succ, List.getElem?_map, List.getElem?_eq_getElem hl1, e1]
        rfl
      have g2 : atI ((n0 :: ns0).map V.int) (a' : Int) = some (.int ((n0 :: ns0).getD a' 0)) := by
        refine atI_nat ?_
        rw [List.getElem?_map, List.getElem?_eq_getElem hlt, e2]
        rfl
      refine ⟨.ref p, rfl, .int (a' : Int), rfl, 1, (a' : Int), rfl, rfl, p, _, _, _, rfl, rfl, .inl (.inl hq2), g1, ?_⟩
      refine ⟨.ref a, rfl, .int (a' : Int), rfl, a, _, _, _, rfl, rfl, hS2, g2, 10, 18, rfl, rfl, ⟨by decide, by decide, by decide⟩, _, _, rfl, rfl, _, rfl, ?_⟩
      have dr1 : ¬ ((n0 :: ns0).getD a' 0 ≥ 10 ^ 18 ∧ rest.getD a' 0 > 0) → dr (n0 :: ns0) k rest m = ((((((((n0 :: ns0).getD a' 0 + 104729 * (k + 1)).fmod 4294967291) ^ 5).fmod 4294967279).fdiv 64 * 69621 + (((((n0 :: ns0).getD a' 0 + 104729 * (k + 1)).fmod 4294967291) ^ 5).fmod 4294967279)).fmod 4294967231).fdiv 8 |>.fmod m, (k + 1) :: rest) := fun hno => by
        unfold dr
        rw [if_neg (by simp)]
        dsimp only
        rw [hat, if_neg hno]
      have low : ¬ ((n0 :: ns0).getD a' 0 ≥ 10 ^ 18 ∧ rest.getD a' 0 > 0) → tSeq (tAsg (tOp (rI (fun _ j => j ≠ 0) fun i j => .int (i.fmod j)) (tOp (rI0 fun i j => .int (i + j)) (tOp (rIxL K) (tVar 0) (tVar 3)) (tOp (rI CMul fun i j => .int (i * j)) (tC (.int 104729)) (tOp (rIxL K) (tVar 1) (tC (.int 0))))) (tC (.int 4294967291))) (gName 5))
          (tSeq (tAsg (tOp (rI (fun _ j => j ≠ 0) fun i j => .int (i.fmod j)) (tOp (rI CPow fun i j => .int (i ^ j.toNat)) (tVar 5) (tC (.int 5))) (tC (.int 4294967279))) (gName 5))
          (tRet (tOp (rI (fun _ j => j ≠ 0) fun i j => .int (i.fmod j)) (tOp (rI CDivV fun i j => .int (i.fdiv j)) (tOp (rI (fun _ j => j ≠ 0) fun i j => .int (i.fmod j)) (tOp (rI0 fun i j => .int (i + j)) (tOp (rI CMul fun i j => .int (i * j)) (tOp (rI CDivV fun i j => .int (i.fdiv j)) (tVar 5) (tC (.int 64))) (tC (.int 69621))) (tVar 5)) (tC (.int 4294967231))) (tC (.int 8))) (tVar 2)))) { nx := fun _ H' => Q .non H', rt := Q } [some (.ref a), some (.ref p), some (.int m), some (.int (a' : Int)), some (.int (rest.getD a' 0)), none] (upd (upd c.H p (.lst (((k + 1) :: rest).map V.int))) l (.lst [])) := fun hno => by
        have b0 : ∀ x : Int, 0 ≤ x.fmod 4294967291 ∧ x.fmod 4294967291 < 4294967291 := fun x => ⟨Int.fmod_nonneg_of_pos _ (by decide), Int.fmod_lt_of_pos _ (by decide)⟩
        have b1 := b0 ((n0 :: ns0).getD a' 0 + 104729 * (k + 1))
        refine ⟨.ref a, rfl, .int (a' : Int), rfl, a, _, _, _, rfl, rfl, hS2, g2, .ref p, rfl, p, _, 0, .int (k + 1), rfl, rfl, .inl (.inl hq2), atI_nat (j := 0) rfl, 104729, k + 1, rfl, rfl, .inl ⟨by decide, by decide⟩, _, _, rfl, rfl, _, 4294967291, rfl, rfl, (by decide : (4294967291 : Int) ≠ 0), ?_⟩
        refine ⟨_, rfl, _, 5, rfl, rfl, ⟨by decide, by decide, by omega⟩, _, 4294967279, rfl, rfl, (by decide : (4294967279 : Int) ≠ 0), ?_⟩
        refine ⟨_, rfl, _, 64, rfl, rfl, ⟨by decide, by decide +kernel⟩, _, 69621, rfl, rfl, .inr ⟨by decide, by decide⟩, _, rfl, _, _, rfl, rfl, _, 4294967231, rfl, rfl, (by decide : (4294967231 : Int) ≠ 0), _, 8, rfl, rfl, ⟨by decide, by decide +kernel⟩, .int m, rfl, _, _, rfl, rfl, hm', ?_⟩
        exact fin _ (dr1 hno)
      by_cases hb : (10 : Int) ^ 18 ≤ (n0 :: ns0).getD a' 0
      · have hb1 : decide ((10 : Int) ^ (18 : Int).toNat ≤ (n0 :: ns0).getD a' 0) = true := decide_eq_true hb
        rw [hb1]
        refine iteT ?_
        refine ⟨_, rfl, _, 0, rfl, rfl, _, rfl, ?_⟩
        by_cases hp : 0 < rest.getD a' 0
        · rw [decide_eq_true hp]
          refine iteT ?_
          have g3 : ixN (((k + 1) :: rest).map V.int).length (1 + (a' : Int)) = some (a' + 1) := by
            have e : (1 : Int) + (a' : Int) = ((a' + 1 : Nat) : Int) := by omega
            rw [e]
            exact ixN_nat (by simp; omega)
          refine ⟨_, rfl, .int m, rfl, _, _, rfl, rfl, hmd, .ref p, rfl, _, rfl, 1, (a' : Int), rfl, rfl, p, _, _, _, rfl, rfl, hq2, g3, ?_⟩
          refine ⟨_, rfl, .int m, rfl, _, _, rfl, rfl, hm', ?_⟩
          have es : ((((k + 1) :: rest).map V.int).set (a' + 1) (.int ((rest.getD a' 0).fdiv m))) = ((k + 1) :: rest.set a' ((rest.getD a' 0).fdiv m)).map V.int := by
            rw [List.map_cons, List.set_cons_succ, List.map_cons, List.map_set]
          rw [es]
          obtain ⟨ok3, st3⟩ := town_new (K := K) (c := ⟨c.F, upd (upd c.H p (.lst (((k + 1) :: rest).map V.int))) l (.lst []), (k + 1) :: rest, c.g⟩) ok2 ((k + 1) :: rest.set a' ((rest.getD a' 0).fdiv m)) (upd (upd (upd c.H p (.lst (((k + 1) :: rest).map V.int))) l (.lst [])) p (.lst (((k + 1) :: rest.set a' ((rest.getD a' 0).fdiv m)).map V.int))) (fun a ha => upd_ne ha) upd_same
          have ed : dr (n0 :: ns0) k rest m = ((rest.getD a' 0).fmod m, (k + 1) :: rest.set a' ((rest.getD a' 0).fdiv m)) := by
            unfold dr
            rw [if_neg (by simp)]
            dsimp only
            rw [hat, if_pos ⟨hb, hp⟩]
          refine h _ _ ?_ (st2.trans ok2 st3) ok3 ?_
          · rw [ed]
          · rw [ed]; exact .int _
        · rw [decide_eq_false hp]
          exact iteF (low fun z => hp z.2)
      · have hb1 : decide ((10 : Int) ^ (18 : Int).toNat ≤ (n0 :: ns0).getD a' 0) = false := decide_eq_false hb
        rw [hb1]
        exact iteF (iteF (low fun z => hb z.1))
theorem ok_town (F : Fun K "_law_town" "_law_town" s__law_town f fd) (ml : mg "list" = none) : FnOk P w K mg base (L2.CX P w) 1 f fd ["script"] (spTown K) := by
  refine F.okX sc__law_town (fun vs H Q E h => ?_) (fun cdv A outer s H vs Q E hr h => ?_)
  · obtain ⟨a, ns, rfl, _⟩ := h
    rfl
  · refine ⟨_, pss_one (ps_ret (pe_op op_cat (pe_lst (pa_cons pe_int pa_nil)) (pe_callTy call_list_of rfl ml PyProof.Rows.boot_list (pa_cons (pv 0) pa_nil)))), ?_⟩
    obtain ⟨a, ns, rfl, hS, h63, q⟩ := h
    refine ⟨by show 1 ≤ sizeLine; decide, fun l1 h1 => ?_⟩
    have sm1 : ∀ b o, H b = some o → upd H l1 (.lst [.int 0]) b = some o := fun b o e => by rw [upd_ne (ne_of_none e h1)]; exact e
    refine ⟨.ref a, rfl, a, _, rfl, .inl (sqL_sub sm1 hS), fun l2 h2 => ?_⟩
    have n12 : l1 ≠ l2 := ne_of_none (upd_same (H := H) (a := l1) (o := .lst [.int 0])) h2
    have e2 : upd (upd H l1 (.lst [.int 0])) l2 (.lst (ns.map V.int)) l1 = some (.lst [.int 0]) := by rw [upd_ne n12]; exact upd_same
    refine ⟨l1, l2, _, _, rfl, rfl, e2, upd_same, ?_, fun p hp => ?_⟩
    · rw [List.length_map]
      have e : sizeLine = 16777216 := by decide
      show 1 + ns.length ≤ _
      omega
    · have p2 : p ≠ l2 := fun z => by rw [z, upd_same] at hp; cases hp
      have hp1 : upd H l1 (.lst [.int 0]) p = none := by rw [upd_ne p2] at hp; exact hp
      have p1 : p ≠ l1 := fun z => by rw [z, upd_same] at hp1; cases hp1
      have hp0 : H p = none := by rw [upd_ne p1] at hp1; exact hp1
      refine q p _ hp0 (fun b o e => ?_) upd_same
      have n2 : b ≠ l2 := fun z => by
        have := sm1 b o e
        rw [z, h2] at this
        cases this
      rw [upd_ne (ne_of_none e hp0), upd_ne n2]
      exact sm1 b o e
end
end Mf
set_option Elab.async false
set_option linter.all false
set_option maxRecDepth 100000
set_option maxHeartbeats 0
namespace Mf
open PySem L2
theorem all_mk {l : PySem.W.OpenLaw} {w : World} {K : PySem.W.Frag} {h : Heap} {mg : Str → Option Value} {fa : Addr} (X : K.In h) (G : h.Ns mainGlobals mg) (hfa : mg "law" = some (.ref fa))
    {f0 : Addr} {od0 an0 : Option Addr} {sl0 : Array (Option Value)} {oc0 kV0 dc0 pm0 cd0 ct0 : Value}
    (a0 : PySem.W.nsIn K mainGlobals "_law_town" = some (some (.ref f0))) (l0 : K.lookup f0 = some ⟨oc0, od0, .func (PySem.W.fnOf "_law_town" "_law_town" (defArgs s__law_town) (defBody s__law_town) (defScope s__law_town) .none kV0 dc0 pm0 an0 cd0 ct0), sl0⟩) (c0 : PySem.W.codeIn K cd0 "_law_town" = true) (k0 : PySem.W.keepIn K (.ref f0) = true)
    {f1 : Addr} {od1 an1 : Option Addr} {sl1 : Array (Option Value)} {oc1 kV1 dc1 pm1 cd1 ct1 : Value}
    (a1 : PySem.W.nsIn K mainGlobals "_law_draw" = some (some (.ref f1))) (l1 : K.lookup f1 = some ⟨oc1, od1, .func (PySem.W.fnOf "_law_draw" "_law_draw" (defArgs s__law_draw) (defBody s__law_draw) (defScope s__law_draw) .none kV1 dc1 pm1 an1 cd1 ct1), sl1⟩) (c1 : PySem.W.codeIn K cd1 "_law_draw" = true) (k1 : PySem.W.keepIn K (.ref f1) = true)
    {f2 : Addr} {od2 an2 : Option Addr} {sl2 : Array (Option Value)} {oc2 kV2 dc2 pm2 cd2 ct2 : Value}
    (a2 : PySem.W.nsIn K mainGlobals "_law_pick" = some (some (.ref f2))) (l2 : K.lookup f2 = some ⟨oc2, od2, .func (PySem.W.fnOf "_law_pick" "_law_pick" (defArgs s__law_pick) (defBody s__law_pick) (defScope s__law_pick) .none kV2 dc2 pm2 an2 cd2 ct2), sl2⟩) (c2 : PySem.W.codeIn K cd2 "_law_pick" = true) (k2 : PySem.W.keepIn K (.ref f2) = true)
    {f3 : Addr} {od3 an3 : Option Addr} {sl3 : Array (Option Value)} {oc3 kV3 dc3 pm3 cd3 ct3 : Value}
    (a3 : PySem.W.nsIn K mainGlobals "_law_formula" = some (some (.ref f3))) (l3 : K.lookup f3 = some ⟨oc3, od3, .func (PySem.W.fnOf "_law_formula" "_law_formula" (defArgs s__law_formula) (defBody s__law_formula) (defScope s__law_formula) .none kV3 dc3 pm3 an3 cd3 ct3), sl3⟩) (c3 : PySem.W.codeIn K cd3 "_law_formula" = true) (k3 : PySem.W.keepIn K (.ref f3) = true)
    {f4 : Addr} {od4 an4 : Option Addr} {sl4 : Array (Option Value)} {oc4 kV4 dc4 pm4 cd4 ct4 : Value}
    (a4 : PySem.W.nsIn K mainGlobals "_law_line" = some (some (.ref f4))) (l4 : K.lookup f4 = some ⟨oc4, od4, .func (PySem.W.fnOf "_law_line" "_law_line" (defArgs s__law_line) (defBody s__law_line) (defScope s__law_line) .none kV4 dc4 pm4 an4 cd4 ct4), sl4⟩) (c4 : PySem.W.codeIn K cd4 "_law_line" = true) (k4 : PySem.W.keepIn K (.ref f4) = true)
    {f5 : Addr} {od5 an5 : Option Addr} {sl5 : Array (Option Value)} {oc5 kV5 dc5 pm5 cd5 ct5 : Value}
    (a5 : PySem.W.nsIn K mainGlobals "split_place" = some (some (.ref f5))) (l5 : K.lookup f5 = some ⟨oc5, od5, .func (PySem.W.fnOf "split_place" "split_place" (defArgs s_split_place) (defBody s_split_place) (defScope s_split_place) .none kV5 dc5 pm5 an5 cd5 ct5), sl5⟩) (c5 : PySem.W.codeIn K cd5 "split_place" = true) (k5 : PySem.W.keepIn K (.ref f5) = true)
    {f6 : Addr} {od6 an6 : Option Addr} {sl6 : Array (Option Value)} {oc6 kV6 dc6 pm6 cd6 ct6 : Value}
    (a6 : PySem.W.nsIn K mainGlobals "close_place" = some (some (.ref f6))) (l6 : K.lookup f6 = some ⟨oc6, od6, .func (PySem.W.fnOf "close_place" "close_place" (defArgs s_close_place) (defBody s_close_place) (defScope s_close_place) .none kV6 dc6 pm6 an6 cd6 ct6), sl6⟩) (c6 : PySem.W.codeIn K cd6 "close_place" = true) (k6 : PySem.W.keepIn K (.ref f6) = true)
    {f7 : Addr} {od7 an7 : Option Addr} {sl7 : Array (Option Value)} {oc7 kV7 dc7 pm7 cd7 ct7 : Value}
    (a7 : PySem.W.nsIn K mainGlobals "read" = some (some (.ref f7))) (l7 : K.lookup f7 = some ⟨oc7, od7, .func (PySem.W.fnOf "read" "read" (defArgs s_read) (defBody s_read) (defScope s_read) .none kV7 dc7 pm7 an7 cd7 ct7), sl7⟩) (c7 : PySem.W.codeIn K cd7 "read" = true) (k7 : PySem.W.keepIn K (.ref f7) = true)
    {f8 : Addr} {od8 an8 : Option Addr} {sl8 : Array (Option Value)} {oc8 kV8 dc8 pm8 cd8 ct8 : Value}
    (a8 : PySem.W.nsIn K mainGlobals "is_between" = some (some (.ref f8))) (l8 : K.lookup f8 = some ⟨oc8, od8, .func (PySem.W.fnOf "is_between" "is_between" (defArgs s_is_between) (defBody s_is_between) (defScope s_is_between) .none kV8 dc8 pm8 an8 cd8 ct8), sl8⟩) (c8 : PySem.W.codeIn K cd8 "is_between" = true) (k8 : PySem.W.keepIn K (.ref f8) = true)
    {f9 : Addr} {od9 an9 : Option Addr} {sl9 : Array (Option Value)} {oc9 kV9 dc9 pm9 cd9 ct9 : Value}
    (a9 : PySem.W.nsIn K mainGlobals "is_name" = some (some (.ref f9))) (l9 : K.lookup f9 = some ⟨oc9, od9, .func (PySem.W.fnOf "is_name" "is_name" (defArgs s_is_name) (defBody s_is_name) (defScope s_is_name) .none kV9 dc9 pm9 an9 cd9 ct9), sl9⟩) (c9 : PySem.W.codeIn K cd9 "is_name" = true) (k9 : PySem.W.keepIn K (.ref f9) = true)
    {f10 : Addr} {od10 an10 : Option Addr} {sl10 : Array (Option Value)} {oc10 kV10 dc10 pm10 cd10 ct10 : Value}
    (a10 : PySem.W.nsIn K mainGlobals "is_at_most" = some (some (.ref f10))) (l10 : K.lookup f10 = some ⟨oc10, od10, .func (PySem.W.fnOf "is_at_most" "is_at_most" (defArgs s_is_at_most) (defBody s_is_at_most) (defScope s_is_at_most) .none kV10 dc10 pm10 an10 cd10 ct10), sl10⟩) (c10 : PySem.W.codeIn K cd10 "is_at_most" = true) (k10 : PySem.W.keepIn K (.ref f10) = true)
    {f11 : Addr} {od11 an11 : Option Addr} {sl11 : Array (Option Value)} {oc11 kV11 dc11 pm11 cd11 ct11 : Value}
    (a11 : PySem.W.nsIn K mainGlobals "is_formula" = some (some (.ref f11))) (l11 : K.lookup f11 = some ⟨oc11, od11, .func (PySem.W.fnOf "is_formula" "is_formula" (defArgs s_is_formula) (defBody s_is_formula) (defScope s_is_formula) .none kV11 dc11 pm11 an11 cd11 ct11), sl11⟩) (c11 : PySem.W.codeIn K cd11 "is_formula" = true) (k11 : PySem.W.keepIn K (.ref f11) = true)
    {f12 : Addr} {od12 an12 : Option Addr} {sl12 : Array (Option Value)} {oc12 kV12 dc12 pm12 cd12 ct12 : Value}
    (a12 : PySem.W.nsIn K mainGlobals "text_of" = some (some (.ref f12))) (l12 : K.lookup f12 = some ⟨oc12, od12, .func (PySem.W.fnOf "text_of" "text_of" (defArgs s_text_of) (defBody s_text_of) (defScope s_text_of) .none kV12 dc12 pm12 an12 cd12 ct12), sl12⟩) (c12 : PySem.W.codeIn K cd12 "text_of" = true) (k12 : PySem.W.keepIn K (.ref f12) = true)
    {f13 : Addr} {od13 an13 : Option Addr} {sl13 : Array (Option Value)} {oc13 kV13 dc13 pm13 cd13 ct13 : Value}
    (a13 : PySem.W.nsIn K mainGlobals "formula_from" = some (some (.ref f13))) (l13 : K.lookup f13 = some ⟨oc13, od13, .func (PySem.W.fnOf "formula_from" "formula_from" (defArgs s_formula_from) (defBody s_formula_from) (defScope s_formula_from) .none kV13 dc13 pm13 an13 cd13 ct13), sl13⟩) (c13 : PySem.W.codeIn K cd13 "formula_from" = true) (k13 : PySem.W.keepIn K (.ref f13) = true)
    {f14 : Addr} {od14 an14 : Option Addr} {sl14 : Array (Option Value)} {oc14 kV14 dc14 pm14 cd14 ct14 : Value}
    (a14 : PySem.W.nsIn K mainGlobals "_law_call" = some (some (.ref f14))) (l14 : K.lookup f14 = some ⟨oc14, od14, .func (PySem.W.fnOf "_law_call" "_law_call" (defArgs s__law_call) (defBody s__law_call) (defScope s__law_call) .none kV14 dc14 pm14 an14 cd14 ct14), sl14⟩) (c14 : PySem.W.codeIn K cd14 "_law_call" = true) (k14 : PySem.W.keepIn K (.ref f14) = true)
    {f15 : Addr} {od15 an15 : Option Addr} {sl15 : Array (Option Value)} {oc15 kV15 dc15 pm15 cd15 ct15 : Value}
    (a15 : PySem.W.nsIn K mainGlobals "_law_name" = some (some (.ref f15))) (l15 : K.lookup f15 = some ⟨oc15, od15, .func (PySem.W.fnOf "_law_name" "_law_name" (defArgs s__law_name) (defBody s__law_name) (defScope s__law_name) .none kV15 dc15 pm15 an15 cd15 ct15), sl15⟩) (c15 : PySem.W.codeIn K cd15 "_law_name" = true) (k15 : PySem.W.keepIn K (.ref f15) = true)
    {f16 : Addr} {od16 an16 : Option Addr} {sl16 : Array (Option Value)} {oc16 kV16 dc16 pm16 cd16 ct16 : Value}
    (a16 : PySem.W.nsIn K mainGlobals "_law_outcome" = some (some (.ref f16))) (l16 : K.lookup f16 = some ⟨oc16, od16, .func (PySem.W.fnOf "_law_outcome" "_law_outcome" (defArgs s__law_outcome) (defBody s__law_outcome) (defScope s__law_outcome) .none kV16 dc16 pm16 an16 cd16 ct16), sl16⟩) (c16 : PySem.W.codeIn K cd16 "_law_outcome" = true) (k16 : PySem.W.keepIn K (.ref f16) = true)
    {f17 : Addr} {od17 an17 : Option Addr} {sl17 : Array (Option Value)} {oc17 kV17 dc17 pm17 cd17 ct17 : Value}
    (a17 : PySem.W.nsIn K mainGlobals "check_formula" = some (some (.ref f17))) (l17 : K.lookup f17 = some ⟨oc17, od17, .func (PySem.W.fnOf "check_formula" "check_formula" (defArgs s_check_formula) (defBody s_check_formula) (defScope s_check_formula) .none kV17 dc17 pm17 an17 cd17 ct17), sl17⟩) (c17 : PySem.W.codeIn K cd17 "check_formula" = true) (k17 : PySem.W.keepIn K (.ref f17) = true)
    {f18 : Addr} {od18 an18 : Option Addr} {sl18 : Array (Option Value)} {oc18 kV18 dc18 pm18 cd18 ct18 : Value}
    (a18 : PySem.W.nsIn K mainGlobals "notation" = some (some (.ref f18))) (l18 : K.lookup f18 = some ⟨oc18, od18, .func (PySem.W.fnOf "notation" "notation" (defArgs s_notation) (defBody s_notation) (defScope s_notation) .none kV18 dc18 pm18 an18 cd18 ct18), sl18⟩) (c18 : PySem.W.codeIn K cd18 "notation" = true) (k18 : PySem.W.keepIn K (.ref f18) = true)
    {f19 : Addr} {od19 an19 : Option Addr} {sl19 : Array (Option Value)} {oc19 kV19 dc19 pm19 cd19 ct19 : Value}
    (a19 : PySem.W.nsIn K mainGlobals "_law_raises" = some (some (.ref f19))) (l19 : K.lookup f19 = some ⟨oc19, od19, .func (PySem.W.fnOf "_law_raises" "_law_raises" (defArgs s__law_raises) (defBody s__law_raises) (defScope s__law_raises) .none kV19 dc19 pm19 an19 cd19 ct19), sl19⟩) (c19 : PySem.W.codeIn K cd19 "_law_raises" = true) (k19 : PySem.W.keepIn K (.ref f19) = true)
    {f20 : Addr} {od20 an20 : Option Addr} {sl20 : Array (Option Value)} {oc20 kV20 dc20 pm20 cd20 ct20 : Value}
    (a20 : PySem.W.nsIn K mainGlobals "law" = some (some (.ref f20))) (l20 : K.lookup f20 = some ⟨oc20, od20, .func (PySem.W.fnOf "law" "law" (defArgs s_law) (defBody s_law) (defScope s_law) .none kV20 dc20 pm20 an20 cd20 ct20), sl20⟩) (c20 : PySem.W.codeIn K cd20 "law" = true) (k20 : PySem.W.keepIn K (.ref f20) = true)
    (z0 : PySem.W.nsIn K mainGlobals "len" = some none)
    (z1 : PySem.W.nsIn K mainGlobals "abs" = some none)
    (z2 : PySem.W.nsIn K mainGlobals "int" = some none)
    (z3 : PySem.W.nsIn K mainGlobals "tuple" = some none)
    (z4 : PySem.W.nsIn K mainGlobals "list" = some none)
    (z5 : PySem.W.nsIn K mainGlobals "all" = some none)
    (z6 : PySem.W.nsIn K mainGlobals "any" = some none)
    (z7 : PySem.W.nsIn K mainGlobals "max" = some none)
    (z8 : PySem.W.nsIn K mainGlobals "isinstance" = some none)
    (z9 : PySem.W.nsIn K mainGlobals "bool" = some none)
    (z10 : PySem.W.nsIn K mainGlobals "str" = some none)
    (z11 : PySem.W.nsIn K mainGlobals "range" = some none)
    (z12 : PySem.W.nsIn K mainGlobals "zip" = some none)
    (z13 : PySem.W.nsIn K mainGlobals "sorted" = some none)
    (z14 : PySem.W.nsIn K mainGlobals "set" = some none)
    (z15 : PySem.W.nsIn K mainGlobals "dict" = some none)
    (z16 : PySem.W.nsIn K mainGlobals "enumerate" = some none)
    (z17 : PySem.W.nsIn K mainGlobals "ValueError" = some none)
    {u0 : Value} (qg0 : PySem.W.nsIn K mainGlobals "NAMES" = some (some u0)) (qr0 : repB K 20 u0 d_NAMES = true)
    {u1 : Addr} (qg1 : PySem.W.nsIn K mainGlobals "SIGNS" = some (some (.ref u1))) (qr1 : tabKB K u1 t_SIGNS = true)
    {u2 : Addr} (qg2 : PySem.W.nsIn K mainGlobals "WORDS" = some (some (.ref u2))) (qr2 : tabKB K u2 t_WORDS = true)
    {u3 : Addr} (qg3 : PySem.W.nsIn K mainGlobals "NUMBERS" = some (some (.ref u3))) (qr3 : tabKB K u3 t_NUMBERS = true)
    (xx : excB K = true)
    {v0 : Value} (w0 : PySem.W.nsIn K mainGlobals "InvalidText" = some (some v0))
    {v1 : Value} (w1 : PySem.W.nsIn K mainGlobals "InvalidFormula" = some (some v1))
    {v2 : Value} (w2 : PySem.W.nsIn K mainGlobals "InvalidStatement" = some (some v2))
    {v3 : Value} (w3 : PySem.W.nsIn K mainGlobals "InvalidStatements" = some (some v3))
    {v4 : Value} (w4 : PySem.W.nsIn K mainGlobals "InvalidTable" = some (some v4))
    {v5 : Value} (w5 : PySem.W.nsIn K mainGlobals "InvalidName" = some (some v5))
    {v6 : Value} (w6 : PySem.W.nsIn K mainGlobals "InvalidMeasure" = some (some v6))
    {v7 : Value} (w7 : PySem.W.nsIn K mainGlobals "InvalidFactors" = some (some v7))
    {v8 : Value} (w8 : PySem.W.nsIn K mainGlobals "InvalidNumbers" = some (some v8))
    {v9 : Value} (w9 : PySem.W.nsIn K mainGlobals "Unknown" = some (some v9))
    {v10 : Value} (w10 : PySem.W.nsIn K mainGlobals "Clash" = some (some v10))
    {v11 : Value} (w11 : PySem.W.nsIn K mainGlobals "NoCompletion" = some (some v11))
    {v12 : Value} (w12 : PySem.W.nsIn K mainGlobals "NotWhole" = some (some v12))
    {v13 : Value} (w13 : PySem.W.nsIn K mainGlobals "NoValue" = some (some v13))
    {v14 : Value} (w14 : PySem.W.nsIn K mainGlobals "TooMany" = some (some v14))
    {v15 : Value} (w15 : PySem.W.nsIn K mainGlobals "AlreadyKnown" = some (some v15))
    {v16 : Value} (w16 : PySem.W.nsIn K mainGlobals "NothingToUndo" = some (some v16)) :
    ∃ fd : FuncData, (∀ (s : Shared) (v : Value), BindsTo s fd ⟨[v], []⟩ [("script", v)]) ∧ ∀ base : Heap, K.In base → base.Ns mainGlobals mg → FnOk l.prog w K mg base (L2.CX l.prog w) 13 fa fd ["script"] (spLaw K 12 c_law) := by
  have e := hfa.symm.trans (PySem.W.mg_of X G a20)
  cases e
  have blt : ∀ y ∈ bltNames, mg y = none := by
    intro y hy
    unfold bltNames at hy
    simp only [List.mem_cons, List.not_mem_nil, or_false] at hy
    rcases hy with rfl | rfl | rfl | rfl | rfl | rfl | rfl | rfl | rfl | rfl | rfl | rfl | rfl | rfl | rfl | rfl | rfl | rfl
    · exact PySem.W.mg_none_of X G z0
    · exact PySem.W.mg_none_of X G z1
    · exact PySem.W.mg_none_of X G z2
    · exact PySem.W.mg_none_of X G z3
    · exact PySem.W.mg_none_of X G z4
    · exact PySem.W.mg_none_of X G z5
    · exact PySem.W.mg_none_of X G z6
    · exact PySem.W.mg_none_of X G z7
    · exact PySem.W.mg_none_of X G z8
    · exact PySem.W.mg_none_of X G z9
    · exact PySem.W.mg_none_of X G z10
    · exact PySem.W.mg_none_of X G z11
    · exact PySem.W.mg_none_of X G z12
    · exact PySem.W.mg_none_of X G z13
    · exact PySem.W.mg_none_of X G z14
    · exact PySem.W.mg_none_of X G z15
    · exact PySem.W.mg_none_of X G z16
    · exact PySem.W.mg_none_of X G z17
  have gl_EXC : Glb K mg "EXC" d_EXC := glb_exc X G xx
  have gl_ValueError := glb_ve gl_EXC
  have gl_InvalidText := glb_cls X G gl_EXC w0
  have gl_InvalidFormula := glb_cls X G gl_EXC w1
  have gl_InvalidStatement := glb_cls X G gl_EXC w2
  have gl_InvalidStatements := glb_cls X G gl_EXC w3
  have gl_InvalidTable := glb_cls X G gl_EXC w4
  have gl_InvalidName := glb_cls X G gl_EXC w5
  have gl_InvalidMeasure := glb_cls X G gl_EXC w6
  have gl_InvalidFactors := glb_cls X G gl_EXC w7
  have gl_InvalidNumbers := glb_cls X G gl_EXC w8
  have gl_Unknown := glb_cls X G gl_EXC w9
  have gl_Clash := glb_cls X G gl_EXC w10
  have gl_NoCompletion := glb_cls X G gl_EXC w11
  have gl_NotWhole := glb_cls X G gl_EXC w12
  have gl_NoValue := glb_cls X G gl_EXC w13
  have gl_TooMany := glb_cls X G gl_EXC w14
  have gl_AlreadyKnown := glb_cls X G gl_EXC w15
  have gl_NothingToUndo := glb_cls X G gl_EXC w16
  have gl_NAMES : Glb K mg "NAMES" d_NAMES := glb_of X G qg0 qr0
  have gl_SIGNS : Glb K mg "SIGNS" d_SIGNS := glb_tab X G qg1 qr1
  have gl_WORDS : Glb K mg "WORDS" d_WORDS := glb_tab X G qg2 qr2
  have gl_NUMBERS : Glb K mg "NUMBERS" d_NUMBERS := glb_tab X G qg3 qr3
  have F20 := fun_mk (st := s_law) l20 c20 k20
  refine ⟨PySem.W.fnOf "law" "law" (defArgs s_law) (defBody s_law) (defScope s_law) .none kV20 dc20 pm20 an20 cd20 ct20, fun s v => .of_eq rfl, fun base _ _ => ?_⟩
  have F0 := fun_mk (st := s__law_town) l0 c0 k0
  have b0 := F0.binds (ps := ["script"]) fun _ _ _ _ _ _ us hl => match us, hl with | [_], _ => rfl
  have F1 := fun_mk (st := s__law_draw) l1 c1 k1
  have b1 := F1.binds (ps := ["script", "town", "limit"]) fun _ _ _ _ _ _ us hl => match us, hl with | [_, _, _], _ => rfl
  have need : ∀ p, needSs (fun x m g => Has l.prog w K mg base (townSys p) 12 x m g) (Glb K mg) (c_law p) := by
    intro p
    have h__law_draw : Has l.prog w K mg base (townSys p) 1 "_law_draw" 3 (g_draw p) := HasF.mk ⟨f1, _, _, rfl, ok_draw F1 (blt "len" (by decide +kernel)), PySem.W.mg_of X G a1, k1, b1⟩ (by decide)
    have h__law_pick := H__law_pick (P := l.prog) (w := w) (base := base) (p := p) (n := 1) (defAt X G a2 l2 c2 k2) blt (h__law_draw.mono (by decide))  
    have h__law_formula := H__law_formula (P := l.prog) (w := w) (base := base) (p := p) (n := 2) (defAt X G a3 l3 c3 k3) blt (h__law_draw.mono (by decide)) (h__law_pick.mono (by decide))   6
    have h__law_line := H__law_line (P := l.prog) (w := w) (base := base) (p := p) (n := 0) (defAt X G a4 l4 c4 k4) blt    6
    have h_split_place := H_split_place (P := l.prog) (w := w) (base := base) (p := p) (n := 0) (defAt X G a5 l5 c5 k5) blt   
    have h_close_place := H_close_place (P := l.prog) (w := w) (base := base) (p := p) (n := 0) (defAt X G a6 l6 c6 k6) blt   
    have h_read := H_read (P := l.prog) (w := w) (base := base) (p := p) (n := 1) (defAt X G a7 l7 c7 k7) blt (h_split_place.mono (by decide)) (h_close_place.mono (by decide))  gl_NAMES gl_WORDS gl_NUMBERS 6
    have h_is_between := H_is_between (P := l.prog) (w := w) (base := base) (p := p) (n := 0) (defAt X G a8 l8 c8 k8) blt   
    have h_is_name := H_is_name (P := l.prog) (w := w) (base := base) (p := p) (n := 0) (defAt X G a9 l9 c9 k9) blt   gl_NAMES
    have h_is_at_most := H_is_at_most (P := l.prog) (w := w) (base := base) (p := p) (n := 1) (defAt X G a10 l10 c10 k10) blt (h_is_between.mono (by decide)) (h_is_name.mono (by decide))   6
    have h_is_formula := H_is_formula (P := l.prog) (w := w) (base := base) (p := p) (n := 8) (defAt X G a11 l11 c11 k11) blt (h_is_at_most.mono (by decide))  
    have h_text_of := H_text_of (P := l.prog) (w := w) (base := base) (p := p) (n := 0) (defAt X G a12 l12 c12 k12) blt   gl_SIGNS 6
    have h_formula_from := H_formula_from (P := l.prog) (w := w) (base := base) (p := p) (n := 9) (defAt X G a13 l13 c13 k13) blt (h_read.mono (by decide)) (h_is_formula.mono (by decide)) (h_text_of.mono (by decide))  gl_InvalidText
    have h__law_call := H__law_call (P := l.prog) (w := w) (base := base) (p := p) (n := 10) (defAt X G a14 l14 c14 k14) blt (h_formula_from.mono (by decide))  
    have h__law_name := H__law_name (P := l.prog) (w := w) (base := base) (p := p) (n := 0) (defAt X G a15 l15 c15 k15) blt   gl_ValueError gl_InvalidFormula gl_InvalidStatement gl_InvalidStatements gl_InvalidTable gl_InvalidName gl_InvalidMeasure gl_InvalidFactors gl_InvalidNumbers gl_InvalidText gl_Unknown gl_Clash gl_NoCompletion gl_NotWhole gl_NoValue gl_TooMany gl_AlreadyKnown gl_NothingToUndo
    have h__law_outcome := H__law_outcome (P := l.prog) (w := w) (base := base) (p := p) (n := 11) (defAt X G a16 l16 c16 k16) blt (h__law_call.mono (by decide)) (h__law_name.mono (by decide))  gl_EXC
    have h_check_formula := H_check_formula (P := l.prog) (w := w) (base := base) (p := p) (n := 9) (defAt X G a17 l17 c17 k17) blt (h_is_formula.mono (by decide))  
    have h_notation := H_notation (P := l.prog) (w := w) (base := base) (p := p) (n := 10) (defAt X G a18 l18 c18 k18) blt (h_check_formula.mono (by decide)) (h_text_of.mono (by decide))  
    have h__law_raises := H__law_raises (P := l.prog) (w := w) (base := base) (p := p) (n := 0) (defAt X G a19 l19 c19 k19) blt   
    have h__law_draw := h__law_draw.mono (show _ ≤ 12 by decide)
    have h__law_pick := h__law_pick.mono (show _ ≤ 12 by decide)
    have h__law_formula := h__law_formula.mono (show _ ≤ 12 by decide)
    have h__law_line := h__law_line.mono (show _ ≤ 12 by decide)
    have h_split_place := h_split_place.mono (show _ ≤ 12 by decide)
    have h_close_place := h_close_place.mono (show _ ≤ 12 by decide)
    have h_read := h_read.mono (show _ ≤ 12 by decide)
    have h_is_between := h_is_between.mono (show _ ≤ 12 by decide)
    have h_is_name := h_is_name.mono (show _ ≤ 12 by decide)
    have h_is_at_most := h_is_at_most.mono (show _ ≤ 12 by decide)
    have h_is_formula := h_is_formula.mono (show _ ≤ 12 by decide)
    have h_text_of := h_text_of.mono (show _ ≤ 12 by decide)
    have h_formula_from := h_formula_from.mono (show _ ≤ 12 by decide)
    have h__law_call := h__law_call.mono (show _ ≤ 12 by decide)
    have h__law_name := h__law_name.mono (show _ ≤ 12 by decide)
    have h__law_outcome := h__law_outcome.mono (show _ ≤ 12 by decide)
    have h_check_formula := h_check_formula.mono (show _ ≤ 12 by decide)
    have h_notation := h_notation.mono (show _ ≤ 12 by decide)
    have h__law_raises := h__law_raises.mono (show _ ≤ 12 by decide)
    unfold c_law
    repeat' (first | exact True.intro | assumption | apply And.intro)
  exact law_sound F20 sc_law rfl rfl (by decide +kernel) (by decide +kernel) (by decide +kernel) rfl ((ok_town F0 (blt "list" (by decide +kernel))).mono (by decide)) b0 k0 (PySem.W.mg_of X G a0) blt k_law need
theorem walk {l : PySem.W.OpenLaw} {q : Program} {loose : List Str} {XP : (Str → Option Value) → Heap → Prop} {YP : World → Heap → Prop} {d : DefRec} {K : Params → PySem.W.Frag} (hn : l.most = some 63) (hdf : d.params.defaults = [])
    (hY : ∀ (w : World) (h : Heap), YP w h → (K w.params).In h)
    (F : ∀ (w : World) (mg : Str → Option Value) (fa : Addr) (h : Heap), (K w.params).In h → h.Ns mainGlobals mg → mg d.name = some (.ref fa) →
      ∃ fd : FuncData, (∀ (s : Shared) (u : Value), BindsTo s fd ⟨[u], []⟩ [("script", u)]) ∧ ∀ base : Heap, (K w.params).In base → base.Ns mainGlobals mg → FnOk l.prog w (K w.params) mg base (L2.CX l.prog w) 13 fa fd ["script"] (spLaw (K w.params) 12 c_law)) :
    PySem.W.WalkO q loose XP YP l.row.toRowW d [] (fun f vs => PySem.call f vs) :=
  L2.walk_of (n := 63) (k := 13) (x := "script") (CX := fun w => L2.CX l.prog w) (sp := fun w => spLaw (K w.params) 12 c_law) hn (by decide) hdf ⟨rfl, by decide, by decide⟩ hY F (fun _ _ a ns hl _ hS => ⟨a, ns, rfl, hS, hl, main ns hl, fun _ => rfl⟩) fun _ _ _ _ _ z => cx_no z
end Mf
open PySem PySem.W PyProof.Rows
set_option maxRecDepth 100000 in
set_option maxHeartbeats 0 in
theorem PySem.Challenge.cw_measureforms_k52_whole_notation_holds : PySem.Challenge.rw_measureforms_k52_whole_notation.Holds := by
  w_on; o_law; k_head; (case hw => w_witness2)
  k_fill
  refine Mf.walk (l := PySem.Challenge.rw_measureforms_k52_whole_notation) rfl rfl (fun w h Y => PySem.W.kIn_of Y) ?F
  case F =>
    intro w mg fa h KX G hmg
    refine' Mf.all_mk KX G hmg ?a0 ?l0 ?c0 ?k0 ?a1 ?l1 ?c1 ?k1 ?a2 ?l2 ?c2 ?k2 ?a3 ?l3 ?c3 ?k3 ?a4 ?l4 ?c4 ?k4 ?a5 ?l5 ?c5 ?k5 ?a6 ?l6 ?c6 ?k6 ?a7 ?l7 ?c7 ?k7 ?a8 ?l8 ?c8 ?k8 ?a9 ?l9 ?c9 ?k9 ?a10 ?l10 ?c10 ?k10 ?a11 ?l11 ?c11 ?k11 ?a12 ?l12 ?c12 ?k12 ?a13 ?l13 ?c13 ?k13 ?a14 ?l14 ?c14 ?k14 ?a15 ?l15 ?c15 ?k15 ?a16 ?l16 ?c16 ?k16 ?a17 ?l17 ?c17 ?k17 ?a18 ?l18 ?c18 ?k18 ?a19 ?l19 ?c19 ?k19 ?a20 ?l20 ?c20 ?k20 ?z0 ?z1 ?z2 ?z3 ?z4 ?z5 ?z6 ?z7 ?z8 ?z9 ?z10 ?z11 ?z12 ?z13 ?z14 ?z15 ?z16 ?z17 ?qg0 ?qr0 ?qg1 ?qr1 ?qg2 ?qr2 ?qg3 ?qr3 ?xx ?w0 ?w1 ?w2 ?w3 ?w4 ?w5 ?w6 ?w7 ?w8 ?w9 ?w10 ?w11 ?w12 ?w13 ?w14 ?w15 ?w16
    (case a0 => k_is)
    (case l0 => k_is)
    (case c0 => k_is)
    (case k0 => k_is)
    (case a1 => k_is)
    (case l1 => k_is)
    (case c1 => k_is)
    (case k1 => k_is)
    (case a2 => k_is)
    (case l2 => k_is)
    (case c2 => k_is)
    (case k2 => k_is)
    (case a3 => k_is)
    (case l3 => k_is)
    (case c3 => k_is)
    (case k3 => k_is)
    (case a4 => k_is)
    (case l4 => k_is)
    (case c4 => k_is)
    (case k4 => k_is)
    (case a5 => k_is)
    (case l5 => k_is)
    (case c5 => k_is)
    (case k5 => k_is)
    (case a6 => k_is)
    (case l6 => k_is)
    (case c6 => k_is)
    (case k6 => k_is)
    (case a7 => k_is)
    (case l7 => k_is)
    (case c7 => k_is)
    (case k7 => k_is)
    (case a8 => k_is)
    (case l8 => k_is)
    (case c8 => k_is)
    (case k8 => k_is)
    (case a9 => k_is)
    (case l9 => k_is)
    (case c9 => k_is)
    (case k9 => k_is)
    (case a10 => k_is)
    (case l10 => k_is)
    (case c10 => k_is)
    (case k10 => k_is)
    (case a11 => k_is)
    (case l11 => k_is)
    (case c11 => k_is)
    (case k11 => k_is)
    (case a12 => k_is)
    (case l12 => k_is)
    (case c12 => k_is)
    (case k12 => k_is)
    (case a13 => k_is)
    (case l13 => k_is)
    (case c13 => k_is)
    (case k13 => k_is)
    (case a14 => k_is)
    (case l14 => k_is)
    (case c14 => k_is)
    (case k14 => k_is)
    (case a15 => k_is)
    (case l15 => k_is)
    (case c15 => k_is)
    (case k15 => k_is)
    (case a16 => k_is)
    (case l16 => k_is)
    (case c16 => k_is)
    (case k16 => k_is)
    (case a17 => k_is)
    (case l17 => k_is)
    (case c17 => k_is)
    (case k17 => k_is)
    (case a18 => k_is)
    (case l18 => k_is)
    (case c18 => k_is)
    (case k18 => k_is)
    (case a19 => k_is)
    (case l19 => k_is)
    (case c19 => k_is)
    (case k19 => k_is)
    (case a20 => k_is)
    (case l20 => k_is)
    (case c20 => k_is)
    (case k20 => k_is)
    (case z0 => k_is)
    (case z1 => k_is)
    (case z2 => k_is)
    (case z3 => k_is)
    (case z4 => k_is)
    (case z5 => k_is)
    (case z6 => k_is)
    (case z7 => k_is)
    (case z8 => k_is)
    (case z9 => k_is)
    (case z10 => k_is)
    (case z11 => k_is)
    (case z12 => k_is)
    (case z13 => k_is)
    (case z14 => k_is)
    (case z15 => k_is)
    (case z16 => k_is)
    (case z17 => k_is)
    (case qg0 => k_is)
    (case qr0 => kernel_rfl)
    (case qg1 => k_is)
    (case qr1 => kernel_rfl)
    (case qg2 => k_is)
    (case qr2 => kernel_rfl)
    (case qg3 => k_is)
    (case qr3 => kernel_rfl)
    (case xx => kernel_rfl)
    (case w0 => k_is)
    (case w1 => k_is)
    (case w2 => k_is)
    (case w3 => k_is)
    (case w4 => k_is)
    (case w5 => k_is)
    (case w6 => k_is)
    (case w7 => k_is)
    (case w8 => k_is)
    (case w9 => k_is)
    (case w10 => k_is)
    (case w11 => k_is)
    (case w12 => k_is)
    (case w13 => k_is)
    (case w14 => k_is)
    (case w15 => k_is)
    (case w16 => k_is)
