import PyProof.Rows.All
import Wide.All
import OpenK.AllK
import Wide.FinOn
import HandS.ForMost
import HandS.ForExc
import HandS.CallSlots
import HandS.Lambda
import HandS.TupAny
import HandS.TupMul
import HandS.Conv
import HandS.IsInst
import HandS.Style
import HandS.Zip
import HandS.Deep
import HandS.RevRange
import HandS.Small
import HandS.DictTup
import KE.SortData
import HandS.LawCells
import HandS.ExcIs
import HandS.ExcOwn
import HandS.SetFor
import HandS.DictComp
import PyProof.FactsAll.dict_4
import PyProof.DictUpdate
import HandS.TryMany
import KE.GoesEnum
import HandS.HeadHook4
import HandS.HeadWalk
import HandS.Head2
import HandS.HeadEnd
import PyProof.ReprRoads
import PyProof.ReprLen
import HandS.Wide
import PyProof.FactsAll.tuple_0
import PyProof.FactsAll.tuple_2
import PyProof.FactsAll.list_2
import HandS.Strs
import HandS.WordsDict
import PySem.Challenge.RW_proofplay_k77_whole_rows_looked_up_besid
set_option Elab.async false
set_option linter.all false
set_option maxRecDepth 100000
set_option maxHeartbeats 4000000
namespace L2
open PySem PySem.Spec PyProof.Rows
/-- the object is a plain tuple -/
def PlT (o : Obj) : Prop := o.cls = .type "tuple" ∧ o.dict = none
/-- what is wanted of a new tuple -/
def NewT (H : Hp) (Q : VK) (xs : List V) : Prop := ∀ p o, H p = none → PlT o → Q (.ref p) (upd H p (.frz o (.tup xs)))
section
variable {X : Cx} {pins : List (Addr × Obj)} {σ : St} {H : Hp} {s : Shared} {Q : VK}
theorem Inv.laidT {h' : Heap} {t' : Nat} {xs : List V} {its : List Value} (I : Inv X pins σ H s) (k : ∀ b u, s.heap.get? b = some u → h'.get? b = some u) {a : Addr} (hp : s.heap.objs.size ≤ a) (hz : xs.length ≤ sizeLine) (r : Vals xs its)
    (e : h'.get? a = some { cls := .type "tuple", data := .seq its.toArray }) (q : NewT H Q xs) : EP X pins σ Q (.ref a) { s with heap := h', toks := t' } :=
  ⟨.ref a, _, I.laid (t' := t') (o := .frz { cls := .type "tuple", data := .seq its.toArray } (.tup xs)) k hp ⟨e, hz, its, r, ⟨_, e, rfl, _, rfl⟩⟩, rfl, q a _ (I.hok.fresh hp) ⟨rfl, rfl⟩⟩
theorem Inv.pushT {t' : Nat} {xs : List V} {its : List Value} (I : Inv X pins σ H s) (hz : xs.length ≤ sizeLine) (r : Vals xs its) (q : NewT H Q xs) :
    EP X pins σ Q (.ref s.heap.objs.size) { s with heap := s.heap.push { cls := .type "tuple", data := .seq its.toArray }, toks := t' } :=
  I.laidT (fun b u e => Heap.get?_push_of_some _ e) (Nat.le_refl _) hz r (Heap.get?_push_size _ rfl) q
end
section
variable {X : Cx}
/-- a tuple of written items -/
def tTupF (t : TA) : TE := fun σ H Q => t σ H fun xs H1 => xs.length ≤ sizeLine ∧ NewT H1 Q xs
theorem pe_tupF {es : List Expr} {t : TA} {pos : Pos} {x1} (h : PA X es t) : PE X (.Tuple es x1 pos) (tTupF t) := ⟨fun pins s σ H Q I hq =>
  wpAny_Tuple_spliced (thn (h.run pos pins s σ H _ I hq) fun us s1 ⟨xs, H1, I1, r, z, q⟩ => ⟨by rw [← r.length]; exact z, I1.pushT (t' := s1.toks) z r q⟩)⟩
/-- t[lo:hi] -/
def rSlF (K : PySem.W.Frag) : V → Option Int → Option Int → Hp → VK → Prop := fun x lo hi H Q => ∃ a xs, x = .ref a ∧ SqT K H a xs ∧
  (HT.sIx xs.length 0 lo = 0 ∧ HT.sIx xs.length xs.length hi = xs.length → Q (.ref a) H) ∧ (¬ (HT.sIx xs.length 0 lo = 0 ∧ HT.sIx xs.length xs.length hi = xs.length) → NewT H Q (cutV xs lo hi))
theorem sl_tupF : SlR X (rSlF X.K) := by
  intro pins s σ H x v vl vu lo hi sl Q I rx hs pl pu h
  obtain ⟨a, xs, rfl, hx, q1, q2⟩ := h
  cases rx
  obtain ⟨its, r, ht, hz⟩ := I.tuple hx
  have hl : its.toArray.size = xs.length := (List.size_toArray ..).trans r.length.symm
  by_cases hw : HT.sIx xs.length 0 lo = 0 ∧ HT.sIx xs.length xs.length hi = xs.length
  · exact ⟨"tuple", _, PyProof.Rows.slot_tuple_getitem.lookup, ht.typeIs, getItem_tuple_whole ht hs pl pu (by rw [hl]; exact hw) ⟨.ref a, H, I, rfl, q1 hw⟩⟩
  · refine ⟨"tuple", _, PyProof.Rows.slot_tuple_getitem.lookup, ht.typeIs, HT.getItem_tuple_cut ht hs pl pu (by rw [hl]; exact hw) ?_ (by rw [hl]; exact hz)⟩
    rw [hl]
    exact I.pushT (t' := s.toks) (Nat.le_trans (cutV_length xs lo hi) hz) ((r.drop (HT.sIx xs.length 0 lo)).take (HT.sIx xs.length xs.length hi - HT.sIx xs.length 0 lo)) (q2 hw)
/-- t + u -/
def rCatF (K : PySem.W.Frag) : R2 := fun x y H Q => ∃ a b xs ys, x = .ref a ∧ y = .ref b ∧ SqT K H a xs ∧ SqT K H b ys ∧ xs.length + ys.length ≤ sizeLine ∧
  (xs = [] → Q (.ref b) H) ∧ (xs ≠ [] → ys = [] → Q (.ref a) H) ∧ (xs ≠ [] → ys ≠ [] → NewT H Q (xs ++ ys))
theorem op_catF : OpR X (binaryOp .Add) (rCatF X.K) := by
  intro pins s σ H x y v u Q I rx ry h
  obtain ⟨a, b, xs, ys, rfl, rfl, ha, hb, hz, q0, q1, q2⟩ := h
  cases rx
  cases ry
  obtain ⟨its, r1, p1, _⟩ := I.tuple ha
  obtain ⟨its2, r2, p2, _⟩ := I.tuple hb
  by_cases hx : xs = []
  · subst hx
    cases r1
    exact cat_tup0 p1 p2 ⟨.ref b, H, I, rfl, q0 rfl⟩
  · exact HT.cat_tup p1 p2 (fun z => hx (r1.nil_iff.mp z)) (fun z => ⟨.ref a, H, I, rfl, q1 hx (r2.nil_iff.mp z)⟩) (fun z => I.pushT (t' := s.toks) (by rw [List.length_append]; exact hz) (r1.append r2) (q2 hx fun w => z (r2.nil_iff.mpr w))) (by rw [← r1.length, ← r2.length]; exact hz)
/-- t * k, t not empty, k from 2 on -/
def rRepF (K : PySem.W.Frag) : R2 := fun x y H Q => ∃ l k xs, x = .ref l ∧ y = .int k ∧ SqT K H l xs ∧ xs ≠ [] ∧ 2 ≤ k ∧ k ≤ 1000 ∧ xs.length ≤ 1000 ∧ NewT H Q (List.replicate k.toNat xs).flatten
theorem op_repF : OpR X (binaryOp .Mult) (rRepF X.K) := by
  intro pins s σ H x y v u Q I rx ry h
  obtain ⟨l, k, xs, rfl, rfl, hT, hne, h1, h2, hz, q⟩ := h
  cases rx
  obtain ⟨t, rfl⟩ := ry
  obtain ⟨its, r, ⟨⟨cls, dd, data, sl⟩, ho, hc, n, hd⟩, hs⟩ := I.tuple hT
  dsimp only at hc hd
  subst hc hd
  have hle := r.length
  have hs0 : its.toArray.size = xs.length := (List.size_toArray ..).trans hle.symm
  have hi : its.toArray.isEmpty = false := by
    cases its with
    | nil => exact absurd (List.eq_nil_of_length_eq_zero hle) hne
    | cons a b => rfl
  have hm : ((its.toArray.size : Nat) : Int) * k ≤ 1000000 := by
    rw [hs0]
    have := Int.mul_le_mul_of_nonneg_right (show ((xs.length : Nat) : Int) ≤ 1000 by omega) (show 0 ≤ k by omega)
    omega
  have flen : k.toNat * xs.length ≤ 16777216 := Nat.le_trans (Nat.mul_le_mul (show k.toNat ≤ 1000 by omega) hz) (by decide)
  refine wpAny_binaryOp_repeat_ref (T := "tuple") (U := "int") (by decide) ⟨_, ho, rfl⟩ (fun s' => typeIs_int s' k t) noFill_tuple_mul F.fills_int_mul F.slot_int_rmul repeat_tuple F.slot_int_index.lookup
    (call_meets F.slot_int_rmul (typeIs_int s k t) F.entry_int_rmul (F.args_int_rmul_2 _ _) (int_rmul_tuple k t l its.toArray n dd sl)
      ⟨ho, rfl, ⟨_, ho, rfl⟩, call_meets F.slot_tuple_mul ⟨_, ho, rfl⟩ F.entry_tuple_mul (F.args_tuple_mul_2 _ _) (tuple_mulW l its.toArray n dd sl k t
        (by rw [Bool.or_eq_false_iff]; exact ⟨decide_eq_false (by omega), decide_eq_false (by omega)⟩) (by rw [hi, Bool.false_or]; exact beq_eq_false_iff_ne.mpr (by omega)) (by rw [hi, Bool.or_false]; exact decide_eq_false (by omega)) (by omega)
        (by unfold Builtin.Tuple.tupleTooMany; rw [sizeLine_eq]; exact decide_eq_false (by omega)) (by rw [size_rep, List.size_toArray, PyProof.Rows.lm_len_rep_flat, ← hle, sizeLine_eq]; exact flen)) ⟨ho, ?_⟩⟩)
  rw [size_rep]
  exact I.pushT (t' := s.toks) (by rw [PyProof.Rows.lm_len_rep_flat, sizeLine_eq]; exact flen) (r.rep k.toNat) q
/-- tuple(x) of a list, a tuple -/
theorem call_tupF : CallR X (.type "tuple") (fun xs H Q => ∃ p ys, xs = [.ref p] ∧ ((SqL X.K H p ys ∧ NewT H Q ys) ∨ (SqT X.K H p ys ∧ Q (.ref p) H))) := by
  intro pins s σ H xs us Q I r h
  obtain ⟨p, ys, rfl, h⟩ := h
  obtain ⟨u, rfl, rx⟩ := vals1 r
  cases rx
  rcases h with ⟨hq, q⟩ | ⟨hq, q⟩
  · obtain ⟨its, r', pl, hz⟩ := I.list hq
    refine call_tuple_list pl.isList (fun h' kp => ?_) (by rw [List.size_toArray, ← r'.length]; exact hz)
    exact (I.kept (t' := s.toks) kp : Inv X pins σ H { s with heap := h' }).pushT (t' := s.toks) hz r' q
  · obtain ⟨its, r', pl, hz⟩ := I.tuple hq
    exact call_tuple_same pl ⟨.ref p, H, I, rfl, q⟩
/-- tuple(range(..)) -/
def tTupRgF (te : St → Hp → (Int → Int → Hp → Prop) → Prop) : TE := fun σ H Q => te σ H fun a b H1 => RgOk a b ∧ NewT H1 Q (rgV a b)
theorem pe_tupRgF {e : Expr} {te : St → Hp → (Int → Int → Hp → Prop) → Prop} {p pos : Pos} (hc : X.calm = true) (hg : Gl X "tuple") (hm : X.mg "tuple" = none) (he : PRg X e te) (na : starEach [e] X.env = (false, eval e X.env) :: starEach [] X.env := by rfl) : PE X (.Call (.Name "tuple" p) [e] [] pos) (tTupRgF te) := by
  refine ⟨fun pins s σ H Q I h => Call_ (ld_blt I hg hm boot_tuple (PyProof.Rows.callWith_type1 (args_cons (thn (he pins s σ H _ I h) fun x s1 ⟨r, a, b, t, u, v, H1, ex, hr, I1, ok, q⟩ => args_nil ?_) na) na))⟩
  subst ex
  obtain ⟨b1, b2, b3, b4, b5⟩ := ok
  refine call_tuple_range (n := (b - a).toNat) (I1.ok.hd hc) hr (small_one b1 b2 b3 b4) (rangeSize_nat a b) b5 fun h' tk acc hk hi => ?_
  have J := (I1.kept hk : Inv X pins σ H1 { s1 with heap := h', toks := tk }).pushT (t' := tk) (xs := rgV a b) (by rw [rgV_length, sizeLine_eq]; omega) (vals_rg hi) q
  rw [Array.toArray_toList] at J
  exact J
end
end L2

set_option Elab.async false
set_option linter.all false
set_option maxRecDepth 100000
set_option maxHeartbeats 4000000
namespace DL
open PySem PySem.Spec PyProof.Rows L2
abbrev St := L2.St

/-- plain data; hnd: the law's hand at a, its cells at c; raw: any other value -/
inductive D where
  | non | bool (b : Bool) | int (i : Int) | str (x : Str)
  | list (xs : List D) | tuple (xs : List D) | dict (t : Bool) (kvs : List (D × D))
  | hnd (a c : Addr) | scr (ns : List Int) | raw (v : V) | lt (xs : List D)

def D.ofKey : Key → D
  | .inl i => .int i
  | .inr x => .str x

def Sub (H H' : Hp) : Prop := ∀ b o, H b = some o → H' b = some o
theorem Sub.refl (H : Hp) : Sub H H := fun _ _ h => h
theorem Sub.trans {a b c : Hp} (x : Sub a b) (y : Sub b c) : Sub a c := fun p o h => y p o (x p o h)
theorem Sub.new {H : Hp} {p : Addr} {o : HO} (h : H p = none) : Sub H (upd H p o) := fun b u e => by rw [upd_ne (ne_of_none e h)]; exact e
/-- a table of code objects (a def that makes lambdas) -/
def TabH (Hf Hh : Hp) (P : Addr) (q : Str) : Prop := ∃ ps : Array Value, Hh P = some (.tbl ps) ∧ TriplesOk ps.toList ∧ ∀ (pos : Pos) (cv : Value), codeAmong pos ps.toList = some cv → ∃ c, cv = .ref c ∧ Hf c = some (LamX.CodeO c q)
theorem TabH.mono {Hf Hf' Hh : Hp} {P : Addr} {q : Str} (t : TabH Hf Hh P q) (s : Sub Hf Hf') : TabH Hf' Hh P q := by
  obtain ⟨ps, a, b, c⟩ := t
  exact ⟨ps, a, b, fun pos cv h => by obtain ⟨x, e1, e2⟩ := c pos cv h; exact ⟨x, e1, s _ _ e2⟩⟩
/-- the law's tables of code objects, with the names that their lambdas bear; kn: all tuples are known to be plain -/
class TabsC where
  T : List (Addr × Str)
  kn : Bool
variable [TabsC]
structure Pt (H Hf Hh Hx : Hp) : Prop where
  f : ∀ a o, Hf a = some o → H a = some o ∧ Hh a = none ∧ Hx a = none
  h : ∀ a o, Hh a = some o → H a = some o ∧ Hf a = none ∧ Hx a = none
  x : ∀ a o, Hx a = some o → H a = some o ∧ Hf a = none ∧ Hh a = none
  c : ∀ a o, H a = some o → Hf a = some o ∨ Hh a = some o ∨ Hx a = some o
  nt : ∀ a vs, Hh a ≠ some (.tup vs) ∧ Hx a ≠ some (.tup vs)
  nb : ∀ a ps, Hf a ≠ some (.tbl ps) ∧ Hx a ≠ some (.tbl ps)
  tb : ∀ p ∈ TabsC.T, TabH Hf Hh p.1 p.2
  nx : ∀ a φ, Hx a ≠ some (.ext φ)
section
variable {H Hf Hh Hx : Hp} {a p : Addr} {o o' : HO}
theorem Pt.fresh (P : Pt H Hf Hh Hx) (h : H p = none) : Hf p = none ∧ Hh p = none ∧ Hx p = none := by
  refine ⟨?_, ?_, ?_⟩
  · cases e : Hf p with
    | none => rfl
    | some o => have := (P.f p o e).1; rw [h] at this; cases this
  · cases e : Hh p with
    | none => rfl
    | some o => have := (P.h p o e).1; rw [h] at this; cases this
  · cases e : Hx p with
    | none => rfl
    | some o => have := (P.x p o e).1; rw [h] at this; cases this
theorem Pt.newF (P : Pt H Hf Hh Hx) (h : H p = none) (hb : ∀ ps, o ≠ .tbl ps := by exact fun _ h => nomatch h) : Pt (upd H p o) (upd Hf p o) Hh Hx := by
  obtain ⟨nf, nh, nx⟩ := P.fresh h
  refine ⟨fun b u e => ?_, fun b u e => ?_, fun b u e => ?_, fun b u e => ?_, P.nt, fun b ps => ⟨fun e => by
    by_cases hb' : b = p
    · subst hb'; rw [upd_same] at e; exact hb _ (Option.some.inj e)
    · rw [upd_ne hb'] at e; exact (P.nb b ps).1 e, (P.nb b ps).2⟩, fun q hq => (P.tb q hq).mono (Sub.new (P.fresh h).1), P.nx⟩
  · by_cases hb : b = p
    · subst hb; rw [upd_same] at e; cases e; exact ⟨upd_same, nh, nx⟩
    · rw [upd_ne hb] at e; rw [upd_ne hb]; exact P.f b u e
  · have hb : b ≠ p := fun z => by subst z; rw [nh] at e; cases e
    rw [upd_ne hb, upd_ne hb]; exact P.h b u e
  · have hb : b ≠ p := fun z => by subst z; rw [nx] at e; cases e
    rw [upd_ne hb, upd_ne hb]; exact P.x b u e
  · by_cases hb : b = p
    · subst hb; rw [upd_same] at e; cases e; exact .inl upd_same
    · rw [upd_ne hb] at e; rw [upd_ne hb]; exact P.c b u e
theorem Pt.newX (P : Pt H Hf Hh Hx) (h : H p = none) (ho : ∀ vs, o ≠ .tup vs := by exact fun _ h => nomatch h) (hb : ∀ ps, o ≠ .tbl ps := by exact fun _ h => nomatch h) (hx : ∀ φ, o ≠ .ext φ := by exact fun _ h => nomatch h) : Pt (upd H p o) Hf Hh (upd Hx p o) := by
  obtain ⟨nf, nh, nx⟩ := P.fresh h
  refine ⟨fun b u e => ?_, fun b u e => ?_, fun b u e => ?_, fun b u e => ?_, fun b vs => ⟨(P.nt b vs).1, fun e => by
    by_cases hb : b = p
    · subst hb; rw [upd_same] at e; exact ho _ (Option.some.inj e)
    · rw [upd_ne hb] at e; exact (P.nt b vs).2 e⟩, fun b ps => ⟨(P.nb b ps).1, fun e => by
    by_cases hb' : b = p
    · subst hb'; rw [upd_same] at e; exact hb _ (Option.some.inj e)
    · rw [upd_ne hb'] at e; exact (P.nb b ps).2 e⟩, P.tb, fun b φ e => by
    by_cases hb' : b = p
    · subst hb'; rw [upd_same] at e; exact hx _ (Option.some.inj e)
    · rw [upd_ne hb'] at e; exact P.nx b φ e⟩
  · have hb : b ≠ p := fun z => by subst z; rw [nf] at e; cases e
    rw [upd_ne hb, upd_ne hb]; exact P.f b u e
  · have hb : b ≠ p := fun z => by subst z; rw [nh] at e; cases e
    rw [upd_ne hb, upd_ne hb]; exact P.h b u e
  · by_cases hb : b = p
    · subst hb; rw [upd_same] at e; cases e; exact ⟨upd_same, nf, nh⟩
    · rw [upd_ne hb] at e; rw [upd_ne hb]; exact P.x b u e
  · by_cases hb : b = p
    · subst hb; rw [upd_same] at e; cases e; exact .inr (.inr upd_same)
    · rw [upd_ne hb] at e; rw [upd_ne hb]; exact P.c b u e
theorem Pt.setX (P : Pt H Hf Hh Hx) (h : Hx a = some o) (ho : ∀ vs, o' ≠ .tup vs := by exact fun _ h => nomatch h) (hb : ∀ ps, o' ≠ .tbl ps := by exact fun _ h => nomatch h) (hx : ∀ φ, o' ≠ .ext φ := by exact fun _ h => nomatch h) : Pt (upd H a o') Hf Hh (upd Hx a o') := by
  obtain ⟨_, nf, nh⟩ := P.x a o h
  refine ⟨fun b u e => ?_, fun b u e => ?_, fun b u e => ?_, fun b u e => ?_, fun b vs => ⟨(P.nt b vs).1, fun e => by
    by_cases hb : b = a
    · subst hb; rw [upd_same] at e; exact ho _ (Option.some.inj e)
    · rw [upd_ne hb] at e; exact (P.nt b vs).2 e⟩, fun b ps => ⟨(P.nb b ps).1, fun e => by
    by_cases hb' : b = a
    · subst hb'; rw [upd_same] at e; exact hb _ (Option.some.inj e)
    · rw [upd_ne hb'] at e; exact (P.nb b ps).2 e⟩, P.tb, fun b φ e => by
    by_cases hb' : b = a
    · subst hb'; rw [upd_same] at e; exact hx _ (Option.some.inj e)
    · rw [upd_ne hb'] at e; exact P.nx b φ e⟩
  · have hb : b ≠ a := fun z => by subst z; rw [nf] at e; cases e
    rw [upd_ne hb, upd_ne hb]; exact P.f b u e
  · have hb : b ≠ a := fun z => by subst z; rw [nh] at e; cases e
    rw [upd_ne hb, upd_ne hb]; exact P.h b u e
  · by_cases hb : b = a
    · subst hb; rw [upd_same] at e; cases e; exact ⟨upd_same, nf, nh⟩
    · rw [upd_ne hb] at e; rw [upd_ne hb]; exact P.x b u e
  · by_cases hb : b = a
    · subst hb; rw [upd_same] at e; cases e; exact .inr (.inr upd_same)
    · rw [upd_ne hb] at e; rw [upd_ne hb]; exact P.c b u e
theorem Pt.setH (P : Pt H Hf Hh Hx) (h : Hh a = some o) (hb : ∀ ps, o ≠ .tbl ps) (ho : ∀ vs, o' ≠ .tup vs := by exact fun _ h => nomatch h) : Pt (upd H a o') Hf (upd Hh a o') Hx := by
  obtain ⟨_, nf, nx⟩ := P.h a o h
  refine ⟨fun b u e => ?_, fun b u e => ?_, fun b u e => ?_, fun b u e => ?_, fun b vs => ⟨fun e => by
    by_cases hb : b = a
    · subst hb; rw [upd_same] at e; exact ho _ (Option.some.inj e)
    · rw [upd_ne hb] at e; exact (P.nt b vs).1 e, (P.nt b vs).2⟩, P.nb, fun q hq => by
    obtain ⟨ps, h1, h2, h3⟩ := P.tb q hq
    have hq' : q.1 ≠ a := fun z => by rw [z, h] at h1; exact hb _ (Option.some.inj h1)
    exact ⟨ps, by rw [upd_ne hq']; exact h1, h2, h3⟩, P.nx⟩
  · have hb : b ≠ a := fun z => by subst z; rw [nf] at e; cases e
    rw [upd_ne hb, upd_ne hb]; exact P.f b u e
  · by_cases hb : b = a
    · subst hb; rw [upd_same] at e; cases e; exact ⟨upd_same, nf, nx⟩
    · rw [upd_ne hb] at e; rw [upd_ne hb]; exact P.h b u e
  · have hb : b ≠ a := fun z => by subst z; rw [nx] at e; cases e
    rw [upd_ne hb, upd_ne hb]; exact P.x b u e
  · by_cases hb : b = a
    · subst hb; rw [upd_same] at e; cases e; exact .inr (.inl upd_same)
    · rw [upd_ne hb] at e; rw [upd_ne hb]; exact P.c b u e
/-- part of the rest becomes frozen (A), or part of the frozen becomes rest -/
noncomputable def mixF (A : Addr → Prop) (Hf Hx : Hp) : Hp := fun a => open Classical in if A a then Hx a else Hf a
noncomputable def cutX (A : Addr → Prop) (Hx : Hp) : Hp := fun a => open Classical in if A a then none else Hx a
theorem mixF_in {A : Addr → Prop} (h : A a) : mixF A Hf Hx a = Hx a := by unfold mixF; simp [h]
theorem mixF_out {A : Addr → Prop} (h : ¬ A a) : mixF A Hf Hx a = Hf a := by unfold mixF; simp [h]
theorem cutX_in {A : Addr → Prop} (h : A a) : cutX A Hx a = none := by unfold cutX; simp [h]
theorem cutX_out {A : Addr → Prop} (h : ¬ A a) : cutX A Hx a = Hx a := by unfold cutX; simp [h]
theorem Pt.mix {A : Addr → Prop} (P : Pt H Hf Hh Hx) (hA : ∀ a, A a → ∃ o, Hx a = some o) : Pt H (mixF A Hf Hx) Hh (cutX A Hx) := by
  refine ⟨fun b u e => ?_, fun b u e => ?_, fun b u e => ?_, fun b u e => ?_, fun b vs => ⟨(P.nt b vs).1, fun e => by
    by_cases hb : A b
    · rw [cutX_in hb] at e; cases e
    · rw [cutX_out hb] at e; exact (P.nt b vs).2 e⟩, fun b ps => ⟨fun e => by
    by_cases hb : A b
    · rw [mixF_in hb] at e; exact (P.nb b ps).2 e
    · rw [mixF_out hb] at e; exact (P.nb b ps).1 e, fun e => by
    by_cases hb : A b
    · rw [cutX_in hb] at e; cases e
    · rw [cutX_out hb] at e; exact (P.nb b ps).2 e⟩, fun q hq => (P.tb q hq).mono fun b u e => by
      have : ¬ A b := fun z => by obtain ⟨o, ho⟩ := hA b z; rw [(P.f b u e).2.2] at ho; cases ho
      rw [mixF_out this]; exact e, fun b φ e => by
    by_cases hb : A b
    · rw [cutX_in hb] at e; cases e
    · rw [cutX_out hb] at e; exact P.nx b φ e⟩
  · by_cases hb : A b
    · rw [mixF_in hb] at e; exact ⟨(P.x b u e).1, (P.x b u e).2.2, cutX_in hb⟩
    · rw [mixF_out hb] at e; rw [cutX_out hb]; exact P.f b u e
  · obtain ⟨h1, h2, h3⟩ := P.h b u e
    have hb : ¬ A b := fun z => by obtain ⟨o, ho⟩ := hA b z; rw [h3] at ho; cases ho
    rw [mixF_out hb, cutX_out hb]; exact ⟨h1, h2, h3⟩
  · by_cases hb : A b
    · rw [cutX_in hb] at e; cases e
    · rw [cutX_out hb] at e; rw [mixF_out hb]; exact P.x b u e
  · by_cases hb : A b
    · obtain ⟨o, ho⟩ := hA b hb
      have := (P.x b o ho).1
      rw [e] at this; cases this
      exact .inl (by rw [mixF_in hb]; exact ho)
    · rw [mixF_out hb, cutX_out hb]; exact P.c b u e
end

/-- the hand's object: cells at c, ints that are not negative -/
def HandOk (c : Addr) (Hf : Hp) (o : HO) : Prop := ∃ (cs : List Int) (i l m n : Int), o = .lst [.ref c, .int i, .int l, .int m, .int n] ∧ Hf c = some (.lst (cs.map V.int)) ∧
  cs.length ≤ 63 ∧ (∀ x ∈ cs, 0 ≤ x) ∧ 0 ≤ i ∧ 0 ≤ l ∧ 0 ≤ m ∧ m < 2 ^ 62 ∧ 0 ≤ n
theorem HandOk.mono {c : Addr} {Hf Hf' : Hp} {o : HO} (h : HandOk c Hf o) (s : Sub Hf Hf') : HandOk c Hf' o := by
  obtain ⟨cs, i, l, m, n, e, hc, r⟩ := h
  exact ⟨cs, i, l, m, n, e, s _ _ hc, r⟩
structure Tr (Hf Hh Hf' Hh' : Hp) : Prop where
  s : Sub Hf Hf'
  h : ∀ a c o, Hh a = some o → HandOk c Hf o → ∃ o', Hh' a = some o' ∧ HandOk c Hf' o'
theorem Tr.refl (Hf Hh : Hp) : Tr Hf Hh Hf Hh := ⟨Sub.refl _, fun _ _ o e k => ⟨o, e, k⟩⟩
theorem Tr.trans {a b a1 b1 a2 b2 : Hp} (x : Tr a b a1 b1) (y : Tr a1 b1 a2 b2) : Tr a b a2 b2 :=
  ⟨x.s.trans y.s, fun p c o e k => by obtain ⟨o', e', k'⟩ := x.h p c o e k; exact y.h p c o' e' k'⟩
theorem Tr.sub {Hf Hf' Hh : Hp} (s : Sub Hf Hf') : Tr Hf Hh Hf' Hh := ⟨s, fun _ _ o e k => ⟨o, e, k.mono s⟩⟩

/-- the tuple at a is plain -/
def KnT (K : PySem.W.Frag) (Hf : Hp) (a : Addr) : Prop := (∃ o vs, Hf a = some (.frz o (.tup vs)) ∧ PlT o) ∨ ∃ o, K.lookup a = some o ∧ PlT o
theorem KnT.sub {K : PySem.W.Frag} {Hf Hf' : Hp} {a : Addr} (h : KnT K Hf a) (s : Sub Hf Hf') : KnT K Hf' a := h.imp (fun ⟨o, vs, e, p⟩ => ⟨o, vs, s _ _ e, p⟩) id
mutual
inductive Rp (K : PySem.W.Frag) (Hf Hh : Hp) : V → D → Prop
  | non : Rp K Hf Hh .non .non
  | bool (b : Bool) : Rp K Hf Hh (.bl b) (.bool b)
  | int (i : Int) : Rp K Hf Hh (.int i) (.int i)
  | str (x : Str) : Rp K Hf Hh (.str x) (.str x)
  | list {a : Addr} {vs : List V} {ds : List D} : Hf a = some (.lst vs) → vs.length ≤ sizeLine → RpAll K Hf Hh vs ds → Rp K Hf Hh (.ref a) (.list ds)
  | tuple {a : Addr} {vs : List V} {ds : List D} : SqT K Hf a vs → vs.length ≤ sizeLine → RpAll K Hf Hh vs ds → (TabsC.kn = true → KnT K Hf a) → Rp K Hf Hh (.ref a) (.tuple ds)
  | dK {a : Addr} {kvs : List (Key × V)} {ds : List (D × D)} : Hf a = some (.dK kvs) → ds.map (·.1) = kvs.map (fun p => D.ofKey p.1) → RpAll K Hf Hh (kvs.map (·.2)) (ds.map (·.2)) → Rp K Hf Hh (.ref a) (.dict false ds)
  | dT {a : Addr} {kvs : List (List Key × V)} {ds : List (D × D)} : Hf a = some (.dT kvs) → ds.map (·.1) = kvs.map (fun p => D.tuple (p.1.map D.ofKey)) → RpAll K Hf Hh (kvs.map (·.2)) (ds.map (·.2)) → Rp K Hf Hh (.ref a) (.dict true ds)
  | hnd {a c : Addr} {o : HO} : Hh a = some o → HandOk c Hf o → Rp K Hf Hh (.ref a) (.hnd a c)
  | scr {a : Addr} {ns : List Int} : SqL K Hf a (ns.map V.int) → ns.length ≤ sizeLine → Rp K Hf Hh (.ref a) (.scr ns)
  | raw (v : V) : Rp K Hf Hh v (.raw v)
  | lt {a : Addr} {vs : List V} {ds : List D} : SqT K Hf a vs → vs.length ≤ sizeLine → RpAll K Hf Hh vs ds → Rp K Hf Hh (.ref a) (.lt ds)
inductive RpAll (K : PySem.W.Frag) (Hf Hh : Hp) : List V → List D → Prop
  | nil : RpAll K Hf Hh [] []
  | cons {v : V} {vs : List V} {d : D} {ds : List D} : Rp K Hf Hh v d → RpAll K Hf Hh vs ds → RpAll K Hf Hh (v :: vs) (d :: ds)
end
section
variable {K : PySem.W.Frag} {Hf Hh Hf' Hh' : Hp}
theorem SqT.sub {a : Addr} {vs : List V} (h : SqT K Hf a vs) (s : Sub Hf Hf') : SqT K Hf' a vs := by
  rcases h with (h | ⟨o, h⟩) | h
  · exact .inl (.inl (s _ _ h))
  · exact .inl (.inr ⟨o, s _ _ h⟩)
  · exact .inr h
theorem SqL.sub {a : Addr} {vs : List V} (h : SqL K Hf a vs) (s : Sub Hf Hf') : SqL K Hf' a vs := by
  rcases h with (h | ⟨o, h⟩) | h
  · exact .inl (.inl (s _ _ h))
  · exact .inl (.inr ⟨o, s _ _ h⟩)
  · exact .inr h
mutual
theorem Rp.mono (t : Tr Hf Hh Hf' Hh') : ∀ {v : V} {d : D}, Rp K Hf Hh v d → Rp K Hf' Hh' v d
  | _, _, .non => .non
  | _, _, .bool b => .bool b
  | _, _, .int i => .int i
  | _, _, .str x => .str x
  | _, _, .list h z r => .list (t.s _ _ h) z (RpAll.mono t r)
  | _, _, .tuple h z r k => .tuple (SqT.sub h t.s) z (RpAll.mono t r) fun e => (k e).sub t.s
  | _, _, .dK h z r => .dK (t.s _ _ h) z (RpAll.mono t r)
  | _, _, .dT h z r => .dT (t.s _ _ h) z (RpAll.mono t r)
  | _, _, .hnd h k => by obtain ⟨o', e', k'⟩ := t.h _ _ _ h k; exact .hnd e' k'
  | _, _, .scr h z => .scr (SqL.sub h t.s) z
  | _, _, .raw v => .raw v
  | _, _, .lt h z r => .lt (SqT.sub h t.s) z (RpAll.mono t r)
theorem RpAll.mono (t : Tr Hf Hh Hf' Hh') : ∀ {vs : List V} {ds : List D}, RpAll K Hf Hh vs ds → RpAll K Hf' Hh' vs ds
  | _, _, .nil => .nil
  | _, _, .cons a b => .cons (Rp.mono t a) (RpAll.mono t b)
end
theorem RpAll.length : ∀ {vs : List V} {ds : List D}, RpAll K Hf Hh vs ds → vs.length = ds.length
  | _, _, .nil => rfl
  | _, _, .cons _ b => by simp [RpAll.length b]
theorem RpAll.append : ∀ {vs ws : List V} {ds es : List D}, RpAll K Hf Hh vs ds → RpAll K Hf Hh ws es → RpAll K Hf Hh (vs ++ ws) (ds ++ es)
  | _, _, _, _, .nil, b => b
  | _, _, _, _, .cons a r, b => .cons a (RpAll.append r b)
theorem RpAll.take : ∀ {vs : List V} {ds : List D} (n : Nat), RpAll K Hf Hh vs ds → RpAll K Hf Hh (vs.take n) (ds.take n)
  | _, _, 0, _ => by simpa using RpAll.nil
  | _, _, _ + 1, .nil => .nil
  | _, _, n + 1, .cons a r => .cons a (RpAll.take n r)
theorem RpAll.drop : ∀ {vs : List V} {ds : List D} (n : Nat), RpAll K Hf Hh vs ds → RpAll K Hf Hh (vs.drop n) (ds.drop n)
  | _, _, 0, r => by simpa using r
  | _, _, _ + 1, .nil => .nil
  | _, _, n + 1, .cons _ r => RpAll.drop n r
theorem RpAll.get : ∀ {vs : List V} {ds : List D} {i : Nat} {d : D}, RpAll K Hf Hh vs ds → ds[i]? = some d → ∃ v, vs[i]? = some v ∧ Rp K Hf Hh v d
  | _, _, _, _, .nil, h => by simp at h
  | _, _, 0, _, .cons a _, h => by simp at h; subst h; exact ⟨_, rfl, a⟩
  | _, _, i + 1, d, .cons _ r, h => by
    obtain ⟨v, e, q⟩ := RpAll.get (i := i) (d := d) r (by simpa using h)
    exact ⟨v, by simpa using e, q⟩
theorem RpAll.getV : ∀ {vs : List V} {ds : List D} {i : Nat} {v : V}, RpAll K Hf Hh vs ds → vs[i]? = some v → ∃ d, ds[i]? = some d ∧ Rp K Hf Hh v d
  | _, _, _, _, .nil, h => by simp at h
  | _, _, 0, _, .cons a _, h => by simp at h; subst h; exact ⟨_, rfl, a⟩
  | _, _, i + 1, d, .cons _ r, h => by
    obtain ⟨v, e, q⟩ := RpAll.getV (i := i) (v := d) r (by simpa using h)
    exact ⟨v, by simpa using e, q⟩
theorem RpAll.set : ∀ {vs : List V} {ds : List D} (i : Nat) {v : V} {d : D}, RpAll K Hf Hh vs ds → Rp K Hf Hh v d → RpAll K Hf Hh (vs.set i v) (ds.set i d)
  | _, _, _, _, _, .nil, _ => .nil
  | _, _, 0, _, _, .cons _ r, q => .cons q r
  | _, _, i + 1, _, _, .cons a r, q => .cons a (RpAll.set i r q)
theorem RpAll.reverse {vs : List V} {ds : List D} (r : RpAll K Hf Hh vs ds) : RpAll K Hf Hh vs.reverse ds.reverse := by
  induction vs generalizing ds with
  | nil => cases r; exact .nil
  | cons v vs ih =>
    cases r with
    | cons a b => rw [List.reverse_cons, List.reverse_cons]; exact (ih b).append (.cons a .nil)
/-- ints, bools, texts by their data -/
theorem RpAll.ints : ∀ {vs : List V} {ns : List Int}, RpAll K Hf Hh vs (ns.map D.int) → vs = ns.map V.int
  | _, [], .nil => rfl
  | _, n :: ns, .cons a r => by cases a; rw [RpAll.ints r]; rfl
theorem RpAll.bls : ∀ {vs : List V} {ns : List Bool}, RpAll K Hf Hh vs (ns.map D.bool) → vs = ns.map V.bl
  | _, [], .nil => rfl
  | _, n :: ns, .cons a r => by cases a; rw [RpAll.bls r]; rfl
theorem RpAll.strs : ∀ {vs : List V} {ns : List Str}, RpAll K Hf Hh vs (ns.map D.str) → vs = ns.map V.str
  | _, [], .nil => rfl
  | _, n :: ns, .cons a r => by cases a; rw [RpAll.strs r]; rfl
theorem RpAll.ofInts : ∀ (ns : List Int), RpAll K Hf Hh (ns.map V.int) (ns.map D.int)
  | [] => .nil
  | n :: ns => .cons (.int n) (RpAll.ofInts ns)
end

abbrev Env' := List (Option D)
/-- what an expression asks: the environment, what is wanted of the value, what is wanted of an exception of a class -/
abbrev WE := Env' → (D → Prop) → (String → Prop) → Prop
structure Sl (K : PySem.W.Frag) (Hf Hh : Hp) (σ : St) (ρ : Env') : Prop where
  len : ρ.length = σ.length
  at' : ∀ (i : Nat) (d : D), ρ[i]? = some (some d) → ∃ v, σ[i]? = some (some v) ∧ Rp K Hf Hh v d
theorem Sl.mono {K : PySem.W.Frag} {Hf Hh Hf' Hh' : Hp} {σ : St} {ρ : Env'} (s : Sl K Hf Hh σ ρ) (t : Tr Hf Hh Hf' Hh') : Sl K Hf' Hh' σ ρ := ⟨s.len, fun i d e => by
  obtain ⟨v, h, r⟩ := s.at' i d e
  exact ⟨v, h, r.mono t⟩⟩
/-- what is wanted of an exception, by its class's name and the heap -/
abbrev XW := String → Hp → Prop
/-- behind an expression -/
def Bk (K : PySem.W.Frag) (Hf Hh Hx : Hp) (Q : VK) (d : D) : Prop := ∀ v H' Hf' Hh', Tr Hf Hh Hf' Hh' → Pt H' Hf' Hh' Hx → Rp K Hf' Hh' v d → Q v H'
def Bx (Hf Hh Hx : Hp) (xw : XW) (c : String) : Prop := ∀ H' Hf' Hh', Tr Hf Hh Hf' Hh' → Pt H' Hf' Hh' Hx → xw c H'
theorem Bk.tr {K : PySem.W.Frag} {Hf Hh Hf' Hh' Hx : Hp} {Q : VK} {d : D} (t : Tr Hf Hh Hf' Hh') (b : Bk K Hf Hh Hx Q d) : Bk K Hf' Hh' Hx Q d := fun v H' a b' u => b v H' a b' (t.trans u)
theorem Bx.tr {Hf Hh Hf' Hh' Hx : Hp} {xw : XW} {c : String} (t : Tr Hf Hh Hf' Hh') (b : Bx Hf Hh Hx xw c) : Bx Hf' Hh' Hx xw c := fun H' a b' u => b H' a b' (t.trans u)
def LE (K : PySem.W.Frag) (xw : XW) (f : WE) : TE := fun σ H Q => ∃ Hf Hh Hx ρ, Pt H Hf Hh Hx ∧ Sl K Hf Hh σ ρ ∧ f ρ (Bk K Hf Hh Hx Q) (Bx Hf Hh Hx xw)
def MonoE (f : WE) : Prop := ∀ ρ (K1 K2 : D → Prop) (X1 X2 : String → Prop), (∀ d, K1 d → K2 d) → (∀ c, X1 c → X2 c) → f ρ K1 X1 → f ρ K2 X2
structure ED (X : Cx) (xw : XW) (e : Expr) (f : WE) : Prop where
  pe : PE X e (LE X.K xw f)
  mo : MonoE f
theorem PE.imp {X : Cx} {e : Expr} {t t' : TE} (h : PE X e t) (k : ∀ σ H Q, t' σ H Q → t σ H Q) : PE X e t' := ⟨fun pins s σ H Q I q => h.run pins s σ H Q I (k σ H Q q)⟩
theorem PT.imp {X : Cx} {e : Expr} {t t' : TT} (h : PT X e t) (k : ∀ σ H Q, t' σ H Q → t σ H Q) : PT X e t' := ⟨fun pins s σ H Q I q => h.run pins s σ H Q I (k σ H Q q)⟩
theorem PW.imp {X : Cx} {e : Expr} {t t' : TT} (h : PW X e t) (k : ∀ σ H Q, t' σ H Q → t σ H Q) : PW X e t' := ⟨fun w pins s σ H Q I q => h.run w pins s σ H Q I (k σ H Q q)⟩
theorem PA.imp {X : Cx} {es : List Expr} {t t' : TA} (h : PA X es t) (k : ∀ σ H Q, t' σ H Q → t σ H Q) : PA X es t' := ⟨fun p pins s σ H Q I q => h.run p pins s σ H Q I (k σ H Q q)⟩
theorem PS.imp {X : Cx} {e : Stmt} {t t' : TS} (h : PS X e t) (k : ∀ D σ H, t' D σ H → t D σ H) : PS X e t' := ⟨fun pins s σ H D I q => h.run pins s σ H D I (k D σ H q)⟩
theorem PSs.imp {X : Cx} {e : List Stmt} {t t' : TS} (h : PSs X e t) (k : ∀ D σ H, t' D σ H → t D σ H) : PSs X e t' := ⟨fun pins s σ H D I q => h.run pins s σ H D I (k D σ H q)⟩

/-- the transformer of an expression, entered at a known partition -/
theorem LE.at {K : PySem.W.Frag} {xw : XW} {f : WE} (m : MonoE f) {σ : St} {H Hf Hh Hx : Hp} {ρ : Env'} {Q : VK} {K1 : D → Prop} {X1 : String → Prop} (P : Pt H Hf Hh Hx) (S : Sl K Hf Hh σ ρ) (h : f ρ K1 X1)
    (hk : ∀ d, K1 d → Bk K Hf Hh Hx Q d) (hx : ∀ c, X1 c → Bx Hf Hh Hx xw c) : LE K xw f σ H Q := ⟨Hf, Hh, Hx, ρ, P, S, m _ _ _ _ _ hk hx h⟩

def varW (i : Nat) : WE := fun ρ K _ => match ρ[i]? with
  | some (some d) => K d
  | _ => False
def cstW (d : D) : WE := fun _ K _ => K d
section
variable {X : Cx} {xw : XW}
theorem ed_var {i : Nat} {x : Str} {pos : Pos} (hN : X.N[i]? = some x) (hv : Vis X.env.scope x) (hd : (x == ("__debug__" : Str)) = false := by decide) (hcd : (x == ("__classdict__" : Str)) = false := by decide) : ED X xw (.Name x pos) (varW i) := by
  refine ⟨PE.imp (pe_var hN hv hd hcd) fun σ H Q ⟨Hf, Hh, Hx, ρ, P, S, h⟩ => ?_, fun ρ K1 K2 X1 X2 hk _ h => ?_⟩
  · unfold varW at h
    split at h
    · rename_i d e
      obtain ⟨v, hσ, r⟩ := S.at' i d e
      exact ⟨v, hσ, h v H Hf Hh (Tr.refl _ _) P r⟩
    · exact h.elim
  · unfold varW at h ⊢
    split at h
    · rename_i d e
      exact hk _ h
    · exact h.elim
theorem mono_cst {d : D} : MonoE (cstW d) := fun _ _ _ _ _ hk _ h => hk _ h
theorem ed_cst {e : Expr} {v : V} {d : D} (h : PE X e (tC v)) (r : ∀ Hf Hh, Rp X.K Hf Hh v d) : ED X xw e (cstW d) :=
  ⟨PE.imp h fun σ H Q ⟨Hf, Hh, Hx, ρ, P, S, q⟩ => q v H Hf Hh (Tr.refl _ _) P (r Hf Hh), mono_cst⟩
theorem ed_int {i j pos} : ED X xw (.Constant (.int i) j pos) (cstW (.int i)) := ed_cst pe_int fun _ _ => .int _
theorem ed_bl {b j pos} : ED X xw (.Constant (.bool b) j pos) (cstW (.bool b)) := ed_cst pe_bl fun _ _ => .bool _
theorem ed_non {j pos} : ED X xw (.Constant .none j pos) (cstW .non) := ed_cst pe_non fun _ _ => .non
theorem ed_str {x j pos} : ED X xw (.Constant (.str x) j pos) (cstW (.str x)) := ed_cst pe_str fun _ _ => .str _
/-- a constant of the module that is plain data -/
theorem ed_glob {x : Str} {v : V} {u : Value} {d : D} {pos : Pos} (hg : Gl X x) (hm : X.mg x = some u) (r : RelV v u) (rd : ∀ Hf Hh, Rp X.K Hf Hh v d) (hd : (x == ("__debug__" : Str)) = false := by decide) : ED X xw (.Name x pos) (cstW d) := ed_cst (pe_glob hg hm r hd) rd

abbrev W2 := D → D → (D → Prop) → Prop
def Mono2 (g : W2) : Prop := ∀ x y (K1 K2 : D → Prop), (∀ d, K1 d → K2 d) → g x y K1 → g x y K2
def L2r (K : PySem.W.Frag) (g : W2) : R2 := fun x y H Q => ∃ Hf Hh Hx dx dy, Pt H Hf Hh Hx ∧ Rp K Hf Hh x dx ∧ Rp K Hf Hh y dy ∧ g dx dy (Bk K Hf Hh Hx Q)
structure OpD (X : Cx) (f : Value → Value → Sem Value) (g : W2) : Prop where
  op : OpR X f (L2r X.K g)
  mo : Mono2 g
def binW (g : W2) (fa fb : WE) : WE := fun ρ K Xc => fa ρ (fun x => fb ρ (fun y => g x y K) Xc) Xc
theorem mono_bin {g : W2} {fa fb : WE} (mg : Mono2 g) (ma : MonoE fa) (mb : MonoE fb) : MonoE (binW g fa fb) := fun ρ _ _ _ _ hk hx h =>
  ma ρ _ _ _ _ (fun x h1 => mb ρ _ _ _ _ (fun y h2 => mg x y _ _ hk h2) hx h1) hx h
theorem bin_imp {g : W2} {fa fb : WE} {a b : Expr} (mg : Mono2 g) (ha : ED X xw a fa) (hb : ED X xw b fb) (σ : St) (H : Hp) (Q : VK) (h : LE X.K xw (binW g fa fb) σ H Q) : tOp (L2r X.K g) (LE X.K xw fa) (LE X.K xw fb) σ H Q := by
  obtain ⟨Hf, Hh, Hx, ρ, P, S, h⟩ := h
  refine LE.at ha.mo P S h (fun x h1 v1 H1 Hf1 Hh1 T1 P1 R1 => ?_) (fun c hc => hc)
  refine LE.at hb.mo P1 (S.mono T1) h1 (fun y h2 v2 H2 Hf2 Hh2 T2 P2 R2 => ?_) (fun c hc => hc.tr T1)
  exact ⟨Hf2, Hh2, Hx, x, y, P2, R1.mono T2, R2, mg x y _ _ (fun d q => q.tr (T1.trans T2)) h2⟩
theorem ed_bin {op : Operator} {g : W2} {fa fb : WE} {a b : Expr} {pos : Pos} (ho : OpD X (binaryOp op) g) (ha : ED X xw a fa) (hb : ED X xw b fb) : ED X xw (.BinOp a op b pos) (binW g fa fb) :=
  ⟨PE.imp (pe_op ho.op ha.pe hb.pe) (bin_imp ho.mo ha hb), mono_bin ho.mo ha.mo hb.mo⟩
theorem ed_cmp {op : CmpOp} {g : W2} {fa fb : WE} {a b : Expr} {pos : Pos} (ho : OpD X (compareOp op) g) (ha : ED X xw a fa) (hb : ED X xw b fb) (hm : behindInMarks op b = false) : ED X xw (.Compare a [op] [b] pos) (binW g fa fb) :=
  ⟨PE.imp (pe_cmpR ho.op ha.pe hb.pe hm) (bin_imp ho.mo ha hb), mono_bin ho.mo ha.mo hb.mo⟩
end
end DL

set_option Elab.async false
set_option linter.all false
set_option maxRecDepth 100000
set_option maxHeartbeats 4000000
namespace DL
open PySem PySem.Spec PyProof.Rows L2
variable [TabsC]

theorem Pt.sub {H Hf Hh Hx : Hp} (P : Pt H Hf Hh Hx) : Sub Hf H := fun a o e => (P.f a o e).1
theorem OpR.imp {X : Cx} {f : Value → Value → Sem Value} {r r' : R2} (h : OpR X f r) (k : ∀ x y H Q, r' x y H Q → r x y H Q) : OpR X f r' :=
  fun pins s σ H x y v u Q I rx ry q => h pins s σ H x y v u Q I rx ry (k x y H Q q)
theorem CallR.imp {X : Cx} {f : Value} {r r' : List V → Hp → VK → Prop} (h : CallR X f r) (k : ∀ xs H Q, r' xs H Q → r xs H Q) : CallR X f r' :=
  fun pins s σ H xs us Q I rx q => h pins s σ H xs us Q I rx (k xs H Q q)
theorem IxR.imp {X : Cx} {r r' : R2} (h : IxR X r) (k : ∀ x y H Q, r' x y H Q → r x y H Q) : IxR X r' :=
  fun value slice pins s σ H x y v u Q I rx ry q hs => h value slice pins s σ H x y v u Q I rx ry (k x y H Q q) hs
theorem SlR.imp {X : Cx} {r r' : V → Option Int → Option Int → Hp → VK → Prop} (h : SlR X r) (k : ∀ x l u H Q, r' x l u H Q → r x l u H Q) : SlR X r' :=
  fun pins s σ H x v vl vu lo hi sl Q I rx hs pl pu q => h pins s σ H x v vl vu lo hi sl Q I rx hs pl pu (k x lo hi H Q q)
theorem MtR.imp {X : Cx} {id : String} {r r' : V → List V → Hp → VK → Prop} (h : MtR X id r) (k : ∀ x xs H Q, r' x xs H Q → r x xs H Q) : MtR X id r' :=
  fun pins s σ H x xs v us Q I rx rxs q => h pins s σ H x xs v us Q I rx rxs (k x xs H Q q)
/-- an atom is handed on -/
theorem Bk.now {K : PySem.W.Frag} {H Hf Hh Hx : Hp} {Q : VK} {v : V} {d : D} (b : Bk K Hf Hh Hx Q d) (P : Pt H Hf Hh Hx) (r : Rp K Hf Hh v d) : Q v H := b v H Hf Hh (Tr.refl _ _) P r
/-- a new frozen object -/
theorem Bk.new {K : PySem.W.Frag} {H Hf Hh Hx : Hp} {Q : VK} {d : D} {p : Addr} {o : HO} (b : Bk K Hf Hh Hx Q d) (P : Pt H Hf Hh Hx) (hp : H p = none) (r : Rp K (upd Hf p o) Hh (.ref p) d) (hb : ∀ ps, o ≠ .tbl ps := by exact fun _ h => nomatch h) : Q (.ref p) (upd H p o) :=
  b _ _ _ _ (Tr.sub (Sub.new (P.fresh hp).1)) (P.newF hp hb) r
theorem tr_new {Hf Hh : Hp} {p : Addr} {o : HO} (h : Hf p = none) : Tr Hf Hh (upd Hf p o) Hh := Tr.sub (Sub.new h)
/-- a new tuple -/
theorem Bk.newT {K : PySem.W.Frag} {H Hf Hh Hx : Hp} {Q : VK} {ds : List D} {vs : List V} (b : Bk K Hf Hh Hx Q (.tuple ds)) (P : Pt H Hf Hh Hx) (z : vs.length ≤ sizeLine) (r : RpAll K Hf Hh vs ds) : NewT H Q vs := fun _ o hp ho =>
  b.new P hp (.tuple (.inl (.inr ⟨o, upd_same⟩)) z (r.mono (tr_new (P.fresh hp).1)) fun _ => .inl ⟨o, vs, upd_same, ho⟩)

section
variable {X : Cx} {xw : XW}
def addW : W2 := fun x y K => match x, y with
  | .int a, .int b => K (.int (a + b))
  | .str a, .str b => a.length + b.length ≤ sizeLine ∧ K (.str (a ++ b))
  | .tuple a, .tuple b => a.length + b.length ≤ sizeLine ∧ K (.tuple (a ++ b))
  | .list a, .list b => a.length + b.length ≤ sizeLine ∧ K (.list (a ++ b))
  | .int a, .bool b => K (.int (a + b2i b))
  | _, _ => False
theorem od_add : OpD X (binaryOp .Add) addW := by
  refine ⟨OpR.imp (OpR.or op_add (OpR.or op_add_str (OpR.or op_catF (OpR.or op_cat op_add_ib)))) fun x y H Q ⟨Hf, Hh, Hx, dx, dy, P, rx, ry, h⟩ => ?_, fun x y K1 K2 hk h => ?_⟩
  · unfold addW at h
    split at h
    · cases rx; cases ry; exact .inl ⟨_, _, rfl, rfl, h.now P (.int _)⟩
    · cases rx; cases ry; exact .inr (.inl ⟨_, _, rfl, rfl, h.1, h.2.now P (.str _)⟩)
    · cases rx with | tuple s1 z1 r1 k1 =>
      cases ry with | tuple s2 z2 r2 k2 =>
      have e1 := r1.length; have e2 := r2.length
      refine .inr (.inr (.inl ⟨_, _, _, _, rfl, rfl, SqT.sub s1 P.sub, SqT.sub s2 P.sub, by omega, fun e => ?_, fun _ e => ?_, fun _ _ => ?_⟩))
      · subst e; cases r1; exact h.2.now P (.tuple s2 z2 r2 k2)
      · subst e; cases r2; exact h.2.now P (.tuple s1 z1 (by rw [List.append_nil]; exact r1) k1)
      · exact h.2.newT P (by rw [List.length_append]; omega) (r1.append r2)
    · cases rx with | list s1 z1 r1 =>
      cases ry with | list s2 z2 r2 =>
      have e1 := r1.length; have e2 := r2.length
      refine .inr (.inr (.inr (.inl ⟨_, _, _, _, rfl, rfl, P.sub _ _ s1, P.sub _ _ s2, by omega, fun p hp => ?_⟩)))
      have t := fun o => tr_new (Hh := Hh) (o := o) (P.fresh hp).1
      exact h.2.new P hp (.list upd_same (by rw [List.length_append]; omega) ((r1.mono (t _)).append (r2.mono (t _))))
    · cases rx; cases ry; exact .inr (.inr (.inr (.inr ⟨_, _, rfl, rfl, h.now P (.int _)⟩)))
    · exact h.elim
  · unfold addW at h ⊢
    split at h <;> first | exact hk _ h | exact ⟨h.1, hk _ h.2⟩ | exact h.elim
/-- two ints -/
def intW (C : Int → Int → Prop) (g : Int → Int → D) : W2 := fun x y K => match x, y with
  | .int a, .int b => C a b ∧ K (g a b)
  | _, _ => False
theorem od_intW {f : Value → Value → Sem Value} {C : Int → Int → Prop} {g : Int → Int → D} {gv : Int → Int → V} (h : OpR X f (rI C gv)) (r : ∀ a b Hf Hh, Rp X.K Hf Hh (gv a b) (g a b)) : OpD X f (intW C g) := by
  refine ⟨OpR.imp h fun x y H Q ⟨Hf, Hh, Hx, dx, dy, P, rx, ry, h⟩ => ?_, fun x y K1 K2 hk h => ?_⟩
  · unfold intW at h
    split at h
    · cases rx; cases ry; exact ⟨_, _, rfl, rfl, h.1, h.2.now P (r _ _ _ _)⟩
    · exact h.elim
  · unfold intW at h ⊢
    split at h <;> first | exact ⟨h.1, hk _ h.2⟩ | exact h.elim
theorem rI_of {f : Value → Value → Sem Value} {gv : Int → Int → V} (h : OpR X f (rI0 gv)) : OpR X f (rI (fun _ _ => True) gv) :=
  OpR.imp h fun x y H Q ⟨i, j, e1, e2, _, q⟩ => ⟨i, j, e1, e2, q⟩
def subW : W2 := intW (fun _ _ => True) fun a b => .int (a - b)
def fdivW : W2 := intW CDiv fun a b => .int (a / b)
def modW : W2 := intW (fun _ b => 0 < b) fun a b => .int (a % b)
def powW : W2 := intW CPow fun a b => .int (a ^ b.toNat)
def shlW : W2 := intW CPow fun a b => .int (a * 2 ^ b.toNat)
def shrW : W2 := intW (fun _ b => 0 ≤ b) fun a b => .int (a / 2 ^ b.toNat)
def bandW : W2 := intW (fun _ _ => True) fun a b => .int (Builtin.bitAnd a b)
theorem od_sub : OpD X (binaryOp .Sub) subW := od_intW (rI_of op_sub) fun _ _ _ _ => .int _
theorem od_fdiv : OpD X (binaryOp .FloorDiv) fdivW := od_intW op_fdiv fun _ _ _ _ => .int _
theorem od_mod : OpD X (binaryOp .Mod) modW := od_intW op_mod fun _ _ _ _ => .int _
theorem od_pow : OpD X (binaryOp .Pow) powW := od_intW op_pow fun _ _ _ _ => .int _
theorem od_shl : OpD X (binaryOp .LShift) shlW := od_intW op_shl fun _ _ _ _ => .int _
theorem od_shr : OpD X (binaryOp .RShift) shrW := od_intW op_shr fun _ _ _ _ => .int _
theorem od_band : OpD X (binaryOp .BitAnd) bandW := od_intW (rI_of op_and) fun _ _ _ _ => .int _
/-- *: two ints, a tuple or a list and an int -/
def repD (xs : List D) (k : Int) : List D := (List.replicate k.toNat xs).flatten
def mulW : W2 := fun x y K => match x, y with
  | .int a, .int b => CMul a b ∧ K (.int (a * b))
  | .tuple xs, .int k => (xs ≠ [] ∧ 2 ≤ k ∧ k ≤ 1000 ∧ xs.length ≤ 1000) ∧ K (.tuple (repD xs k))
  | .list xs, .int k => (k < 2 ^ 62 ∧ -(2 ^ 62) < k ∧ xs.length * k.toNat ≤ sizeLine) ∧ K (.list (repD xs k))
  | _, _ => False
theorem RpAll.rep {K : PySem.W.Frag} {Hf Hh : Hp} {vs : List V} {ds : List D} (r : RpAll K Hf Hh vs ds) : ∀ n : Nat, RpAll K Hf Hh (List.replicate n vs).flatten (List.replicate n ds).flatten
  | 0 => .nil
  | n + 1 => by
    rw [List.replicate_succ, List.replicate_succ, List.flatten_cons, List.flatten_cons]
    exact r.append (RpAll.rep r n)
theorem length_rep {α : Type} (xs : List α) : ∀ n : Nat, ((List.replicate n xs).flatten).length = xs.length * n
  | 0 => by simp
  | n + 1 => by rw [List.replicate_succ, List.flatten_cons, List.length_append, length_rep xs n, Nat.mul_succ, Nat.add_comm]
theorem rep_le {a b : Nat} (h : a ≤ 1000) (k : b ≤ 1000) : a * b ≤ 16777216 := Nat.le_trans (Nat.mul_le_mul h k) (by decide)
theorem od_mul : OpD X (binaryOp .Mult) mulW := by
  refine ⟨OpR.imp (OpR.or op_mul (OpR.or op_repF op_rep)) fun x y H Q ⟨Hf, Hh, Hx, dx, dy, P, rx, ry, h⟩ => ?_, fun x y K1 K2 hk h => ?_⟩
  · unfold mulW at h
    split at h
    · cases rx; cases ry; exact .inl ⟨_, _, rfl, rfl, h.1, h.2.now P (.int _)⟩
    · cases rx with | tuple s1 z1 r1 =>
      cases ry
      obtain ⟨⟨h1, h2, h3, h4⟩, h⟩ := h
      have e1 := r1.length
      refine .inr (.inl ⟨_, _, _, rfl, rfl, SqT.sub s1 P.sub, fun e => h1 (by subst e; cases r1; rfl), h2, h3, by omega, h.newT P ?_ (r1.rep _)⟩)
      rw [length_rep, sizeLine_eq]
      exact rep_le (by omega) (by omega)
    · cases rx with | list s1 z1 r1 =>
      cases ry
      obtain ⟨⟨h1, h2, h3⟩, h⟩ := h
      have e1 := r1.length
      refine .inr (.inr ⟨_, _, _, rfl, rfl, P.sub _ _ s1, by omega, by omega, by rw [e1]; exact h3, fun p hp => ?_⟩)
      have t := fun o => tr_new (Hh := Hh) (o := o) (P.fresh hp).1
      refine h.new P hp (.list upd_same ?_ ((r1.mono (t _)).rep _))
      rw [length_rep, e1]; exact h3
    · exact h.elim
  · unfold mulW at h ⊢
    split at h <;> first | exact ⟨h.1, hk _ h.2⟩ | exact h.elim

mutual
/-- as the library's data; what bears no data is none there -/
def D.py : D → PyData
  | .non => .none
  | .bool b => .bool b
  | .int i => .int i
  | .str x => .str x
  | .list xs => .list (D.pys xs)
  | .tuple xs => .tuple (D.pys xs)
  | .dict _ _ => .none
  | .hnd _ _ => .none
  | .scr _ => .none
  | .raw _ => .none
  | .lt _ => .none
def D.pys : List D → List PyData
  | [] => []
  | x :: xs => D.py x :: D.pys xs
end
mutual
/-- no dict, hand or raw value within -/
def D.pl : D → Bool
  | .dict _ _ => false
  | .hnd _ _ => false
  | .scr _ => false
  | .raw _ => false
  | .lt _ => false
  | .list xs => D.pls xs
  | .tuple xs => D.pls xs
  | _ => true
def D.pls : List D → Bool
  | [] => true
  | x :: xs => D.pl x && D.pls xs
end
theorem SqL.up {K : PySem.W.Frag} {Hf H : Hp} {a : Addr} {vs : List V} (h : Hf a = some (.lst vs)) (s : Sub Hf H) : SqL K H a vs := .inl (.inl (s _ _ h))
mutual
theorem Rp.dp {K : PySem.W.Frag} {H Hf Hh : Hp} (s : Sub Hf H) : ∀ {v : V} {d : D}, Rp K Hf Hh v d → d.pl = true → Dp K H v d.py
  | _, _, .non, _ => by rw [D.py]; exact .non
  | _, _, .bool b, _ => by rw [D.py]; exact .bl b
  | _, _, .int i, _ => by rw [D.py]; exact .int i
  | _, _, .str x, _ => by rw [D.py]; exact .str x
  | _, _, .list h z r, q => by rw [D.py]; exact .lst (SqL.up h s) (RpAll.dp s r (by rw [D.pl] at q; exact q))
  | _, _, .tuple h z r _, q => by rw [D.py]; exact .tup (SqT.sub h s) (RpAll.dp s r (by rw [D.pl] at q; exact q))
  | _, _, .dK h z r, q => by rw [D.pl] at q; cases q
  | _, _, .dT h z r, q => by rw [D.pl] at q; cases q
  | _, _, .hnd h k, q => by rw [D.pl] at q; cases q
  | _, _, .scr h k, q => by rw [D.pl] at q; cases q
  | _, _, .raw v, q => by rw [D.pl] at q; cases q
  | _, _, .lt h z r, q => by rw [D.pl] at q; cases q
theorem RpAll.dp {K : PySem.W.Frag} {H Hf Hh : Hp} (s : Sub Hf H) : ∀ {vs : List V} {ds : List D}, RpAll K Hf Hh vs ds → D.pls ds = true → DpAll K H vs (D.pys ds)
  | _, _, .nil, _ => by rw [D.pys]; exact .nil
  | _, _, .cons a b, q => by
    rw [D.pls, Bool.and_eq_true] at q
    rw [D.pys]
    exact .cons (Rp.dp s a q.1) (RpAll.dp s b q.2)
end
/-- may be compared -/
def D.cm (d : D) : Bool := d.pl && SeqAt.shaped d.py
def D.eqv (a b : D) : Bool := PyData.eqv a.py b.py
def eqW : W2 := fun x y K => (x.cm = true ∧ y.cm = true) ∧ K (.bool (x.eqv y))
def neW : W2 := fun x y K => (x.cm = true ∧ y.cm = true) ∧ K (.bool (!x.eqv y))
theorem od_eq (hu : X.A.units + 64 < cLine) : OpD X (compareOp .Eq) eqW := by
  refine ⟨OpR.imp (op_eqD hu) fun x y H Q ⟨Hf, Hh, Hx, dx, dy, P, rx, ry, ⟨h1, h2⟩, h⟩ => ?_, fun x y K1 K2 hk h => ⟨h.1, hk _ h.2⟩⟩
  have a := Bool.and_eq_true_iff.mp h1
  have b := Bool.and_eq_true_iff.mp h2
  exact ⟨_, _, rx.dp P.sub a.1, ry.dp P.sub b.1, a.2, b.2, h.now P (.bool _)⟩
theorem od_ne (hu : X.A.units + 64 < cLine) : OpD X (compareOp .NotEq) neW := by
  refine ⟨OpR.imp (op_neD hu) fun x y H Q ⟨Hf, Hh, Hx, dx, dy, P, rx, ry, ⟨h1, h2⟩, h⟩ => ?_, fun x y K1 K2 hk h => ⟨h.1, hk _ h.2⟩⟩
  have a := Bool.and_eq_true_iff.mp h1
  have b := Bool.and_eq_true_iff.mp h2
  exact ⟨_, _, rx.dp P.sub a.1, ry.dp P.sub b.1, a.2, b.2, h.now P (.bool _)⟩
def leW : W2 := intW (fun _ _ => True) fun a b => .bool (decide (a ≤ b))
def gtW : W2 := intW (fun _ _ => True) fun a b => .bool (decide (b < a))
def geW : W2 := intW (fun _ _ => True) fun a b => .bool (decide (b ≤ a))
theorem od_le : OpD X (compareOp .LtE) leW := od_intW (rI_of op_le) fun _ _ _ _ => .bool _
theorem od_gt : OpD X (compareOp .Gt) gtW := od_intW (rI_of op_gt) fun _ _ _ _ => .bool _
theorem od_ge : OpD X (compareOp .GtE) geW := od_intW (rI_of op_ge) fun _ _ _ _ => .bool _
/-- <: ints, or tuples of ints -/
def ltW : W2 := fun x y K => match x, y with
  | .int a, .int b => K (.bool (decide (a < b)))
  | .tuple a, .tuple b => ∃ ns ms : List Int, a = ns.map D.int ∧ b = ms.map D.int ∧ K (.bool (HT.lexLt ns ms))
  | _, _ => False
theorem od_lt (hu : X.A.units < cLine) : OpD X (compareOp .Lt) ltW := by
  refine ⟨OpR.imp (OpR.or op_lt (op_ltT hu)) fun x y H Q ⟨Hf, Hh, Hx, dx, dy, P, rx, ry, h⟩ => ?_, fun x y K1 K2 hk h => ?_⟩
  · unfold ltW at h
    split at h
    · cases rx; cases ry; exact .inl ⟨_, _, rfl, rfl, h.now P (.bool _)⟩
    · obtain ⟨ns, ms, e1, e2, h⟩ := h
      subst e1 e2
      cases rx with | tuple s1 z1 r1 =>
      cases ry with | tuple s2 z2 r2 =>
      have a1 := r1.ints; have a2 := r2.ints
      subst a1 a2
      exact .inr ⟨_, _, ns, ms, rfl, rfl, SqT.sub s1 P.sub, SqT.sub s2 P.sub, h.now P (.bool _)⟩
    · exact h.elim
  · unfold ltW at h ⊢
    split at h
    · exact hk _ h
    · obtain ⟨ns, ms, e1, e2, h⟩ := h
      exact ⟨ns, ms, e1, e2, hk _ h⟩
    · exact h.elim
/-- is None, is not None (the right one written) -/
def D.isNon : D → Bool
  | .non => true
  | _ => false
def isNonW : W2 := fun x y K => match y with
  | .non => (∀ v, x ≠ .raw v) ∧ K (.bool x.isNon)
  | .bool c => match x with
    | .bool b => K (.bool (decide (b = c)))
    | _ => False
  | _ => False
def notNonW : W2 := fun x y K => match y with
  | .non => (∀ v, x ≠ .raw v) ∧ K (.bool (!x.isNon))
  | .bool c => match x with
    | .bool b => K (.bool (!decide (b = c)))
    | _ => False
  | _ => False
theorem Rp.isNon {K : PySem.W.Frag} {Hf Hh : Hp} {v : V} {d : D} (r : Rp K Hf Hh v d) (h : ∀ v, d ≠ .raw v) : decide (v = .non) = d.isNon := by
  cases r with
  | raw v => exact absurd rfl (h v)
  | non => rfl
  | _ => exact decide_eq_false (fun e => nomatch e)
theorem od_is : OpD X (compareOp .Is) isNonW := by
  refine ⟨OpR.imp (OpR.or op_isN op_isBl) fun x y H Q ⟨Hf, Hh, Hx, dx, dy, P, rx, ry, h⟩ => ?_, fun x y K1 K2 hk h => ?_⟩
  · unfold isNonW at h
    split at h
    · cases ry; exact .inl ⟨rfl, by rw [rx.isNon h.1]; exact h.2.now P (.bool _)⟩
    · split at h
      · cases rx; cases ry; exact .inr ⟨_, _, rfl, rfl, h.now P (.bool _)⟩
      · exact h.elim
    · exact h.elim
  · unfold isNonW at h ⊢
    split at h
    · exact ⟨h.1, hk _ h.2⟩
    · split at h <;> first | exact hk _ h | exact h.elim
    · exact h.elim
theorem od_isnot : OpD X (compareOp .IsNot) notNonW := by
  refine ⟨OpR.imp (OpR.or op_notN op_notBl) fun x y H Q ⟨Hf, Hh, Hx, dx, dy, P, rx, ry, h⟩ => ?_, fun x y K1 K2 hk h => ?_⟩
  · unfold notNonW at h
    split at h
    · cases ry; exact .inl ⟨rfl, by rw [rx.isNon h.1]; exact h.2.now P (.bool _)⟩
    · split at h
      · cases rx; cases ry; exact .inr ⟨_, _, rfl, rfl, h.now P (.bool _)⟩
      · exact h.elim
    · exact h.elim
  · unfold notNonW at h ⊢
    split at h
    · exact ⟨h.1, hk _ h.2⟩
    · split at h <;> first | exact hk _ h | exact h.elim
    · exact h.elim

abbrev WT := Env' → (Bool → Prop) → (String → Prop) → Prop
def MonoT (f : WT) : Prop := ∀ ρ (K1 K2 : Bool → Prop) (X1 X2 : String → Prop), (∀ d, K1 d → K2 d) → (∀ c, X1 c → X2 c) → f ρ K1 X1 → f ρ K2 X2
def Bt (Hf Hh Hx : Hp) (Q : Bool → Hp → Prop) (b : Bool) : Prop := ∀ H' Hf' Hh', Tr Hf Hh Hf' Hh' → Pt H' Hf' Hh' Hx → Q b H'
def LT (K : PySem.W.Frag) (xw : XW) (f : WT) : TT := fun σ H Q => ∃ Hf Hh Hx ρ, Pt H Hf Hh Hx ∧ Sl K Hf Hh σ ρ ∧ f ρ (Bt Hf Hh Hx Q) (Bx Hf Hh Hx xw)
theorem LT.at {K : PySem.W.Frag} {xw : XW} {f : WT} (m : MonoT f) {σ : St} {H Hf Hh Hx : Hp} {ρ : Env'} {Q : Bool → Hp → Prop} {K1 : Bool → Prop} {X1 : String → Prop} (P : Pt H Hf Hh Hx) (S : Sl K Hf Hh σ ρ) (h : f ρ K1 X1)
    (hk : ∀ d, K1 d → Bt Hf Hh Hx Q d) (hx : ∀ c, X1 c → Bx Hf Hh Hx xw c) : LT K xw f σ H Q := ⟨Hf, Hh, Hx, ρ, P, S, m _ _ _ _ _ hk hx h⟩
theorem Bt.tr {Hf Hh Hf' Hh' Hx : Hp} {Q : Bool → Hp → Prop} {d : Bool} (t : Tr Hf Hh Hf' Hh') (b : Bt Hf Hh Hx Q d) : Bt Hf' Hh' Hx Q d := fun H' a b' u => b H' a b' (t.trans u)
structure TD (X : Cx) (xw : XW) (e : Expr) (f : WT) : Prop where
  pt : PT X e (LT X.K xw f)
  mo : MonoT f
/-- a test whatever its whole is -/
structure TWD (X : Cx) (xw : XW) (e : Expr) (f : WT) : Prop where
  pw : PW X e (LT X.K xw f)
  mo : MonoT f
theorem TWD.td {e : Expr} {f : WT} (h : TWD X xw e f) : TD X xw e f := ⟨h.pw.pt, h.mo⟩
def D.truth : D → Option Bool
  | .non => some false
  | .bool b => some b
  | .int i => some (i != 0)
  | .list xs => some (!xs.isEmpty)
  | .tuple xs => some (!xs.isEmpty)
  | _ => none
def truthK (K : Bool → Prop) (d : D) : Prop := match d.truth with
  | some b => K b
  | none => False
def truthW (f : WE) : WT := fun ρ K Xc => f ρ (truthK K) Xc
theorem RpAll.isEmpty {K : PySem.W.Frag} {Hf Hh : Hp} {vs : List V} {ds : List D} (r : RpAll K Hf Hh vs ds) : vs.isEmpty = ds.isEmpty := by cases r <;> rfl
theorem Rp.truth {K : PySem.W.Frag} {H Hf Hh : Hp} {v : V} {d : D} {b : Bool} (r : Rp K Hf Hh v d) (s : Sub Hf H) (h : d.truth = some b) : TruV K v H b := by
  cases r with
  | non => cases h; exact (rfl : false = false)
  | bool b => cases h; exact (rfl : b = b)
  | int i => cases h; exact (rfl : (i != 0) = (i != 0))
  | list e z r => cases h; exact .inl ⟨_, SqL.up e s, by rw [r.isEmpty]⟩
  | tuple e z r => cases h; exact .inr (.inl ⟨_, SqT.sub e s, by rw [r.isEmpty]⟩)
  | _ => cases h
theorem mono_truth {f : WE} (m : MonoE f) : MonoT (truthW f) := fun ρ K1 K2 X1 X2 hk hx h => m _ _ _ _ _ (fun d q => by
  unfold truthK at q ⊢
  split at q
  · rename_i b e; exact hk _ q
  · exact q.elim) hx h
theorem td_of {e : Expr} {f : WE} (h : ED X xw e f) (he : ∀ whole, isTrue e X.env whole = (do let v ← whole; standAt e.pos; holding [v] (truthy v)) := by intro _; rfl) : TD X xw e (truthW f) := by
  refine ⟨PT.imp (pt_truth h.pe he) fun σ H Q ⟨Hf, Hh, Hx, ρ, P, S, q⟩ => ?_, mono_truth h.mo⟩
  refine LE.at h.mo P S q (fun d hd v H' Hf' Hh' T' P' R' => ?_) (fun c hc => hc)
  unfold truthK at hd
  split at hd
  · rename_i b e
    exact ⟨b, R'.truth P'.sub e, hd H' Hf' Hh' T' P'⟩
  · exact hd.elim
def andT (f g : WT) : WT := fun ρ K Xc => f ρ (fun b => if b = true then g ρ K Xc else K false) Xc
def orT (f g : WT) : WT := fun ρ K Xc => f ρ (fun b => if b = true then K true else g ρ K Xc) Xc
def notT (f : WT) : WT := fun ρ K Xc => f ρ (fun b => K (!b)) Xc
theorem mono_and {f g : WT} (mf : MonoT f) (mg : MonoT g) : MonoT (andT f g) := fun ρ K1 K2 X1 X2 hk hx h => mf _ _ _ _ _ (fun b q => by
  cases b with
  | true => exact mg _ _ _ _ _ hk hx q
  | false => exact hk _ q) hx h
theorem mono_or {f g : WT} (mf : MonoT f) (mg : MonoT g) : MonoT (orT f g) := fun ρ K1 K2 X1 X2 hk hx h => mf _ _ _ _ _ (fun b q => by
  cases b with
  | true => exact hk _ q
  | false => exact mg _ _ _ _ _ hk hx q) hx h
theorem mono_not {f : WT} (mf : MonoT f) : MonoT (notT f) := fun ρ K1 K2 X1 X2 hk hx h => mf _ _ _ _ _ (fun b q => hk _ q) hx h
theorem tw_and1 {a : Expr} {f : WT} {pos : Pos} (h : TD X xw a f) : TWD X xw (.BoolOp .And [a] pos) f := ⟨pw_and1 h.pt, h.mo⟩
theorem tw_or1 {a : Expr} {f : WT} {pos : Pos} (h : TD X xw a f) : TWD X xw (.BoolOp .Or [a] pos) f := ⟨pw_or1 h.pt, h.mo⟩
theorem tw_and {a b : Expr} {rest : List Expr} {f g : WT} {pos : Pos} (ha : TD X xw a f) (hb : TWD X xw (.BoolOp .And (b :: rest) pos) g) : TWD X xw (.BoolOp .And (a :: b :: rest) pos) (andT f g) := by
  refine ⟨PW.imp (pw_and ha.pt hb.pw) fun σ H Q ⟨Hf, Hh, Hx, ρ, P, S, q⟩ => ?_, mono_and ha.mo hb.mo⟩
  refine LT.at ha.mo P S q (fun c hc H' Hf' Hh' T' P' => ?_) (fun c hc => hc)
  cases c with
  | true => exact iteT (LT.at hb.mo P' (S.mono T') hc (fun d hd => hd.tr T') (fun c hc => hc.tr T'))
  | false => exact iteF (hc H' Hf' Hh' T' P')
theorem tw_or {a b : Expr} {rest : List Expr} {f g : WT} {pos : Pos} (ha : TD X xw a f) (hb : TWD X xw (.BoolOp .Or (b :: rest) pos) g) : TWD X xw (.BoolOp .Or (a :: b :: rest) pos) (orT f g) := by
  refine ⟨PW.imp (pw_or ha.pt hb.pw) fun σ H Q ⟨Hf, Hh, Hx, ρ, P, S, q⟩ => ?_, mono_or ha.mo hb.mo⟩
  refine LT.at ha.mo P S q (fun c hc H' Hf' Hh' T' P' => ?_) (fun c hc => hc)
  cases c with
  | true => exact iteT (hc H' Hf' Hh' T' P')
  | false => exact iteF (LT.at hb.mo P' (S.mono T') hc (fun d hd => hd.tr T') (fun c hc => hc.tr T'))
theorem td_not {a : Expr} {f : WT} {pos : Pos} (ha : TD X xw a f) : TD X xw (.UnaryOp .Not a pos) (notT f) := by
  refine ⟨PT.imp (pt_not ha.pt) fun σ H Q ⟨Hf, Hh, Hx, ρ, P, S, q⟩ => ?_, mono_not ha.mo⟩
  exact LT.at ha.mo P S q (fun c hc H' Hf' Hh' T' P' => hc H' Hf' Hh' T' P') (fun c hc => hc)

def andV (f g : WE) : WE := fun ρ K Xc => f ρ (fun d => match d with
  | .bool b => if b = true then g ρ K Xc else K (.bool false)
  | _ => False) Xc
def orV (f g : WE) : WE := fun ρ K Xc => f ρ (fun d => match d with
  | .bool b => if b = true then K (.bool true) else g ρ K Xc
  | _ => False) Xc
def notV (f : WE) : WE := fun ρ K Xc => f ρ (fun d => match d with
  | .bool b => K (.bool (!b))
  | _ => False) Xc
theorem ed_one {op} {a : Expr} {f : WE} {pos : Pos} (h : ED X xw a f) : ED X xw (.BoolOp op [a] pos) f := ⟨pe_one h.pe, h.mo⟩
theorem ed_and {a b : Expr} {rest : List Expr} {f g : WE} {pos : Pos} (ha : ED X xw a f) (hb : ED X xw (.BoolOp .And (b :: rest) pos) g) : ED X xw (.BoolOp .And (a :: b :: rest) pos) (andV f g) := by
  refine ⟨PE.imp (pe_and ha.pe hb.pe) fun σ H Q ⟨Hf, Hh, Hx, ρ, P, S, q⟩ => ?_, fun ρ K1 K2 X1 X2 hk hx h => ha.mo _ _ _ _ _ (fun d q => ?_) hx h⟩
  · refine LE.at ha.mo P S q (fun d hd v H' Hf' Hh' T' P' R' => ?_) (fun c hc => hc)
    split at hd
    · rename_i b
      cases R'
      refine ⟨b, rfl, ?_⟩
      cases b with
      | true => exact iteT (LE.at hb.mo P' (S.mono T') hd (fun d hd => hd.tr T') (fun c hc => hc.tr T'))
      | false => exact iteF (hd _ H' Hf' Hh' T' P' (.bool _))
    · exact hd.elim
  · split at q
    · rename_i b
      cases b with
      | true => exact hb.mo _ _ _ _ _ hk hx q
      | false => exact hk _ q
    · exact q.elim
theorem ed_or {a b : Expr} {rest : List Expr} {f g : WE} {pos : Pos} (ha : ED X xw a f) (hb : ED X xw (.BoolOp .Or (b :: rest) pos) g) : ED X xw (.BoolOp .Or (a :: b :: rest) pos) (orV f g) := by
  refine ⟨PE.imp (pe_or ha.pe hb.pe) fun σ H Q ⟨Hf, Hh, Hx, ρ, P, S, q⟩ => ?_, fun ρ K1 K2 X1 X2 hk hx h => ha.mo _ _ _ _ _ (fun d q => ?_) hx h⟩
  · refine LE.at ha.mo P S q (fun d hd v H' Hf' Hh' T' P' R' => ?_) (fun c hc => hc)
    split at hd
    · rename_i b
      cases R'
      refine ⟨b, rfl, ?_⟩
      cases b with
      | true => exact iteT (hd _ H' Hf' Hh' T' P' (.bool _))
      | false => exact iteF (LE.at hb.mo P' (S.mono T') hd (fun d hd => hd.tr T') (fun c hc => hc.tr T'))
    · exact hd.elim
  · split at q
    · rename_i b
      cases b with
      | true => exact hk _ q
      | false => exact hb.mo _ _ _ _ _ hk hx q
    · exact q.elim
theorem ed_not {a : Expr} {f : WE} {pos : Pos} (ha : ED X xw a f) : ED X xw (.UnaryOp .Not a pos) (notV f) := by
  refine ⟨PE.imp (pe_not ha.pe) fun σ H Q ⟨Hf, Hh, Hx, ρ, P, S, q⟩ => ?_, fun ρ K1 K2 X1 X2 hk hx h => ha.mo _ _ _ _ _ (fun d q => ?_) hx h⟩
  · refine LE.at ha.mo P S q (fun d hd v H' Hf' Hh' T' P' R' => ?_) (fun c hc => hc)
    split at hd
    · cases R'; exact ⟨_, rfl, hd _ H' Hf' Hh' T' P' (.bool _)⟩
    · exact hd.elim
  · split at q
    · exact hk _ q
    · exact q.elim
def ifV (t : WT) (f g : WE) : WE := fun ρ K Xc => t ρ (fun b => if b = true then f ρ K Xc else g ρ K Xc) Xc
theorem ed_if {c a b : Expr} {t : WT} {f g : WE} {pos : Pos} (hc : TD X xw c t) (ha : ED X xw a f) (hb : ED X xw b g) : ED X xw (.IfExp c a b pos) (ifV t f g) := by
  refine ⟨PE.imp (pe_ifExp hc.pt ha.pe hb.pe) fun σ H Q ⟨Hf, Hh, Hx, ρ, P, S, q⟩ => ?_, fun ρ K1 K2 X1 X2 hk hx h => hc.mo _ _ _ _ _ (fun d q => ?_) hx h⟩
  · refine LT.at hc.mo P S q (fun c hc H' Hf' Hh' T' P' => ?_) (fun c hc => hc)
    cases c with
    | true => exact iteT (LE.at ha.mo P' (S.mono T') hc (fun d hd => hd.tr T') (fun c hc => hc.tr T'))
    | false => exact iteF (LE.at hb.mo P' (S.mono T') hc (fun d hd => hd.tr T') (fun c hc => hc.tr T'))
  · cases d with
    | true => exact ha.mo _ _ _ _ _ hk hx q
    | false => exact hb.mo _ _ _ _ _ hk hx q
/-- a op b op' c -/
def chainW (g g' : W2) (fa fb fc : WE) : WE := fun ρ K Xc => fa ρ (fun x => fb ρ (fun y => g x y (fun z => match z with
  | .bool k => if k = true then fc ρ (fun w => g' y w K) Xc else K (.bool false)
  | _ => False)) Xc) Xc
theorem mono_chain {g g' : W2} {fa fb fc : WE} (mg : Mono2 g) (mg' : Mono2 g') (ma : MonoE fa) (mb : MonoE fb) (mc : MonoE fc) : MonoE (chainW g g' fa fb fc) := fun ρ K1 K2 X1 X2 hk hx h =>
  ma _ _ _ _ _ (fun x h1 => mb _ _ _ _ _ (fun y h2 => mg _ _ _ _ (fun z h3 => by
    split at h3
    · rename_i k
      cases k with
      | true => exact mc _ _ _ _ _ (fun w h4 => mg' _ _ _ _ hk h4) hx h3
      | false => exact hk _ h3
    · exact h3.elim) h2) hx h1) hx h
theorem chain_imp {g g' : W2} {fa fb fc : WE} {a b c : Expr} (mg : Mono2 g) (mg' : Mono2 g') (ha : ED X xw a fa) (hb : ED X xw b fb) (hc : ED X xw c fc) (σ : St) (H : Hp) (Q : VK) (h : LE X.K xw (chainW g g' fa fb fc) σ H Q) :
    tChain (L2r X.K g) (L2r X.K g') (LE X.K xw fa) (LE X.K xw fb) (LE X.K xw fc) σ H Q := by
  obtain ⟨Hf, Hh, Hx, ρ, P, S, h⟩ := h
  refine LE.at ha.mo P S h (fun x h1 v1 H1 Hf1 Hh1 T1 P1 R1 => ?_) (fun c hc => hc)
  refine LE.at hb.mo P1 (S.mono T1) h1 (fun y h2 v2 H2 Hf2 Hh2 T2 P2 R2 => ?_) (fun c hc => hc.tr T1)
  refine ⟨Hf2, Hh2, Hx, x, y, P2, R1.mono T2, R2, mg x y _ _ (fun z hz v3 H3 Hf3 Hh3 T3 P3 R3 => ?_) h2⟩
  split at hz
  · rename_i k
    cases R3
    refine ⟨k, rfl, ?_⟩
    have TT := T1.trans (T2.trans T3)
    cases k with
    | true =>
      refine iteT (LE.at hc.mo P3 (S.mono TT) hz (fun w hw v4 H4 Hf4 Hh4 T4 P4 R4 => ?_) (fun c hc => hc.tr TT))
      exact ⟨Hf4, Hh4, Hx, y, w, P4, R2.mono (T3.trans T4), R4, mg' _ _ _ _ (fun d q => q.tr (TT.trans T4)) hw⟩
    | false => exact iteF (hz _ H3 Hf3 Hh3 TT P3 (.bool _))
  · exact hz.elim
theorem ed_chain {op op' : CmpOp} {g g' : W2} {fa fb fc : WE} {a b c : Expr} {pos : Pos} (ho : OpD X (compareOp op) g) (ho' : OpD X (compareOp op') g') (ha : ED X xw a fa) (hb : ED X xw b fb) (hc : ED X xw c fc)
    (hm : lastMarks [op, op'] [b, c] = false := by with_unfolding_all rfl) : ED X xw (.Compare a [op, op'] [b, c] pos) (chainW g g' fa fb fc) :=
  ⟨PE.imp (pe_chain ho.op ho'.op ha.pe hb.pe hc.pe hm) (chain_imp ho.mo ho'.mo ha hb hc), mono_chain ho.mo ho'.mo ha.mo hb.mo hc.mo⟩
/-- as a test: the last one tells True or False -/
def boolK (K : Bool → Prop) (d : D) : Prop := match d with
  | .bool b => K b
  | _ => False
def boolW (f : WE) : WT := fun ρ K Xc => f ρ (boolK K) Xc
theorem mono_bool {f : WE} (m : MonoE f) : MonoT (boolW f) := fun ρ K1 K2 X1 X2 hk hx h => m _ _ _ _ _ (fun d q => by
  unfold boolK at q ⊢
  split at q
  · exact hk _ q
  · exact q.elim) hx h
theorem td_chain {op op' : CmpOp} {g g' : W2} {fa fb fc : WE} {a b c : Expr} {pos : Pos} (ho : OpD X (compareOp op) g) (ho' : OpD X (compareOp op') g') (ha : ED X xw a fa) (hb : ED X xw b fb) (hc : ED X xw c fc)
    (hm : lastMarks [op, op'] [b, c] = false := by with_unfolding_all rfl) : TD X xw (.Compare a [op, op'] [b, c] pos) (boolW (chainW g g' fa fb fc)) := by
  have m := mono_chain ho.mo ho'.mo ha.mo hb.mo hc.mo
  refine ⟨PT.imp (pt_chain ho.op ho'.op ha.pe hb.pe hc.pe hm) fun σ H Q ⟨Hf, Hh, Hx, ρ, P, S, q⟩ => ?_, mono_bool m⟩
  refine chain_imp ho.mo ho'.mo ha hb hc σ H _ (LE.at m P S q (fun d hd v H' Hf' Hh' T' P' R' => ?_) (fun c hc => hc))
  unfold boolK at hd
  split at hd
  · cases R'; exact ⟨_, rfl, hd H' Hf' Hh' T' P'⟩
  · exact hd.elim
end
end DL

set_option Elab.async false
set_option linter.all false
set_option maxRecDepth 100000
set_option maxHeartbeats 4000000
namespace DL
open PySem PySem.Spec PyProof.Rows L2
variable [TabsC]
section
variable {X : Cx} {xw : XW}
abbrev WA := Env' → (List D → Prop) → (String → Prop) → Prop
def MonoA (f : WA) : Prop := ∀ ρ (K1 K2 : List D → Prop) (X1 X2 : String → Prop), (∀ d, K1 d → K2 d) → (∀ c, X1 c → X2 c) → f ρ K1 X1 → f ρ K2 X2
def Ba (K : PySem.W.Frag) (Hf Hh Hx : Hp) (Q : List V → Hp → Prop) (ds : List D) : Prop := ∀ vs H' Hf' Hh', Tr Hf Hh Hf' Hh' → Pt H' Hf' Hh' Hx → RpAll K Hf' Hh' vs ds → Q vs H'
theorem Ba.tr {K : PySem.W.Frag} {Hf Hh Hf' Hh' Hx : Hp} {Q : List V → Hp → Prop} {d : List D} (t : Tr Hf Hh Hf' Hh') (b : Ba K Hf Hh Hx Q d) : Ba K Hf' Hh' Hx Q d := fun v H' a b' u => b v H' a b' (t.trans u)
def LA (K : PySem.W.Frag) (xw : XW) (f : WA) : TA := fun σ H Q => ∃ Hf Hh Hx ρ, Pt H Hf Hh Hx ∧ Sl K Hf Hh σ ρ ∧ f ρ (Ba K Hf Hh Hx Q) (Bx Hf Hh Hx xw)
theorem LA.at {K : PySem.W.Frag} {xw : XW} {f : WA} (m : MonoA f) {σ : St} {H Hf Hh Hx : Hp} {ρ : Env'} {Q : List V → Hp → Prop} {K1 : List D → Prop} {X1 : String → Prop} (P : Pt H Hf Hh Hx) (S : Sl K Hf Hh σ ρ) (h : f ρ K1 X1)
    (hk : ∀ d, K1 d → Ba K Hf Hh Hx Q d) (hx : ∀ c, X1 c → Bx Hf Hh Hx xw c) : LA K xw f σ H Q := ⟨Hf, Hh, Hx, ρ, P, S, m _ _ _ _ _ hk hx h⟩
structure AD (X : Cx) (xw : XW) (es : List Expr) (f : WA) : Prop where
  pa : PA X es (LA X.K xw f)
  mo : MonoA f
def nilA : WA := fun _ K _ => K []
def consA (f : WE) (g : WA) : WA := fun ρ K Xc => f ρ (fun d => g ρ (fun ds => K (d :: ds)) Xc) Xc
theorem ad_nil : AD X xw [] nilA := ⟨PA.imp pa_nil fun σ H Q ⟨Hf, Hh, Hx, ρ, P, S, q⟩ => q [] H Hf Hh (Tr.refl _ _) P .nil, fun _ _ _ _ _ hk _ h => hk _ h⟩
theorem ad_cons {e : Expr} {es : List Expr} {f : WE} {g : WA} (h : ED X xw e f) (r : AD X xw es g) (hs : starEach (e :: es) X.env = (false, eval e X.env) :: starEach es X.env := by rfl) : AD X xw (e :: es) (consA f g) := by
  refine ⟨PA.imp (pa_cons h.pe r.pa hs) fun σ H Q ⟨Hf, Hh, Hx, ρ, P, S, q⟩ => ?_, fun ρ K1 K2 X1 X2 hk hx q => h.mo _ _ _ _ _ (fun d q => r.mo _ _ _ _ _ (fun ds q => hk _ q) hx q) hx q⟩
  refine LE.at h.mo P S q (fun x h1 v1 H1 Hf1 Hh1 T1 P1 R1 => ?_) (fun c hc => hc)
  refine LA.at r.mo P1 (S.mono T1) h1 (fun y h2 v2 H2 Hf2 Hh2 T2 P2 R2 => ?_) (fun c hc => hc.tr T1)
  exact h2 _ H2 Hf2 Hh2 (T1.trans T2) P2 (.cons (R1.mono T2) R2)

def OwnR (K : PySem.W.Frag) (Hf Hh : Hp) (o : HO) : D → Prop
  | .list ds => ∃ vs, o = .lst vs ∧ vs.length ≤ sizeLine ∧ RpAll K Hf Hh vs ds
  | .dict false ds => ∃ kvs, o = .dK kvs ∧ ds.map (·.1) = kvs.map (fun p => D.ofKey p.1) ∧ RpAll K Hf Hh (kvs.map (·.2)) (ds.map (·.2))
  | .dict true ds => ∃ kvs, o = .dT kvs ∧ ds.map (·.1) = kvs.map (fun p => D.tuple (p.1.map D.ofKey)) ∧ RpAll K Hf Hh (kvs.map (·.2)) (ds.map (·.2))
  | _ => False
theorem OwnR.mono {K : PySem.W.Frag} {Hf Hh Hf' Hh' : Hp} {o : HO} {d : D} (r : OwnR K Hf Hh o d) (t : Tr Hf Hh Hf' Hh') : OwnR K Hf' Hh' o d := by
  unfold OwnR at r ⊢
  split at r
  · obtain ⟨vs, e, z, r⟩ := r; exact ⟨vs, e, z, r.mono t⟩
  · obtain ⟨kvs, e, z, r⟩ := r; exact ⟨kvs, e, z, r.mono t⟩
  · obtain ⟨kvs, e, z, r⟩ := r; exact ⟨kvs, e, z, r.mono t⟩
  · exact r.elim
theorem OwnR.rp {K : PySem.W.Frag} {Hf Hh : Hp} {o : HO} {d : D} {p : Addr} (r : OwnR K Hf Hh o d) (h : Hf p = some o) : Rp K Hf Hh (.ref p) d := by
  unfold OwnR at r
  split at r
  · obtain ⟨vs, e, z, r⟩ := r; subst e; exact .list h z r
  · obtain ⟨kvs, e, z, r⟩ := r; subst e; exact .dK h z r
  · obtain ⟨kvs, e, z, r⟩ := r; subst e; exact .dT h z r
  · exact r.elim
theorem OwnR.noT {K : PySem.W.Frag} {Hf Hh : Hp} {o : HO} {d : D} (r : OwnR K Hf Hh o d) : ∀ vs, o ≠ .tup vs := by
  unfold OwnR at r
  split at r
  · obtain ⟨vs, e, _⟩ := r; subst e; exact fun _ h => nomatch h
  · obtain ⟨vs, e, _⟩ := r; subst e; exact fun _ h => nomatch h
  · obtain ⟨vs, e, _⟩ := r; subst e; exact fun _ h => nomatch h
  · exact r.elim
theorem OwnR.noE {K : PySem.W.Frag} {Hf Hh : Hp} {o : HO} {d : D} (r : OwnR K Hf Hh o d) : ∀ φ, o ≠ .ext φ := by
  unfold OwnR at r
  split at r
  · obtain ⟨vs, e, _⟩ := r; subst e; exact fun _ h => nomatch h
  · obtain ⟨vs, e, _⟩ := r; subst e; exact fun _ h => nomatch h
  · obtain ⟨vs, e, _⟩ := r; subst e; exact fun _ h => nomatch h
  · exact r.elim
theorem OwnR.noB {K : PySem.W.Frag} {Hf Hh : Hp} {o : HO} {d : D} (r : OwnR K Hf Hh o d) : ∀ ps, o ≠ .tbl ps := by
  unfold OwnR at r
  split at r
  · obtain ⟨vs, e, _⟩ := r; subst e; exact fun _ h => nomatch h
  · obtain ⟨vs, e, _⟩ := r; subst e; exact fun _ h => nomatch h
  · obtain ⟨vs, e, _⟩ := r; subst e; exact fun _ h => nomatch h
  · exact r.elim
def Bf (K : PySem.W.Frag) (Hf Hh Hx : Hp) (Q : VK) (d : D) : Prop := ∀ p o H' Hf' Hh', Tr Hf Hh Hf' Hh' → Pt H' Hf' Hh' Hx → H' p = none → OwnR K Hf' Hh' o d → Q (.ref p) (upd H' p o)
theorem Bf.tr {K : PySem.W.Frag} {Hf Hh Hf' Hh' Hx : Hp} {Q : VK} {d : D} (t : Tr Hf Hh Hf' Hh') (b : Bf K Hf Hh Hx Q d) : Bf K Hf' Hh' Hx Q d := fun p o H' a b' u => b p o H' a b' (t.trans u)
def LF (K : PySem.W.Frag) (xw : XW) (f : WE) : TE := fun σ H Q => ∃ Hf Hh Hx ρ, Pt H Hf Hh Hx ∧ Sl K Hf Hh σ ρ ∧ f ρ (Bf K Hf Hh Hx Q) (Bx Hf Hh Hx xw)
/-- an expression that makes a new list or dict -/
structure FD (X : Cx) (xw : XW) (e : Expr) (f : WE) : Prop where
  pe : PE X e (LF X.K xw f)
  mo : MonoE f
theorem Bk.bf {K : PySem.W.Frag} {Hf Hh Hx : Hp} {Q : VK} {d : D} (b : Bk K Hf Hh Hx Q d) : Bf K Hf Hh Hx Q d := fun p o H' Hf' Hh' T P hp r =>
  (b.tr T).new P hp ((r.mono (tr_new (P.fresh hp).1)).rp upd_same) r.noB
theorem FD.ed {e : Expr} {f : WE} (h : FD X xw e f) : ED X xw e f :=
  ⟨PE.imp h.pe fun σ H Q ⟨Hf, Hh, Hx, ρ, P, S, q⟩ => ⟨Hf, Hh, Hx, ρ, P, S, h.mo _ _ _ _ _ (fun d b => b.bf) (fun c h => h) q⟩, h.mo⟩

def tupW (f : WA) : WE := fun ρ K Xc => f ρ (fun ds => ds.length ≤ sizeLine ∧ K (.tuple ds)) Xc
def lstW (f : WA) : WE := fun ρ K Xc => f ρ (fun ds => ds.length ≤ sizeLine ∧ K (.list ds)) Xc
theorem mono_tup {f : WA} (m : MonoA f) : MonoE (tupW f) := fun ρ K1 K2 X1 X2 hk hx h => m _ _ _ _ _ (fun ds q => ⟨q.1, hk _ q.2⟩) hx h
theorem mono_lst {f : WA} (m : MonoA f) : MonoE (lstW f) := fun ρ K1 K2 X1 X2 hk hx h => m _ _ _ _ _ (fun ds q => ⟨q.1, hk _ q.2⟩) hx h
theorem ed_tup {es : List Expr} {x1} {f : WA} {pos : Pos} (h : AD X xw es f) : ED X xw (.Tuple es x1 pos) (tupW f) := by
  refine ⟨PE.imp (pe_tupF h.pa) fun σ H Q ⟨Hf, Hh, Hx, ρ, P, S, q⟩ => ?_, mono_tup h.mo⟩
  refine LA.at h.mo P S q (fun ds hd vs H' Hf' Hh' T' P' R' => ?_) (fun c hc => hc)
  have e := R'.length
  exact ⟨by rw [e]; exact hd.1, (hd.2.tr T').newT P' (by rw [e]; exact hd.1) R'⟩
theorem fd_lst {es : List Expr} {f : WA} {pos : Pos} (h : AD X xw es f) : FD X xw (.List es pos) (lstW f) := by
  refine ⟨PE.imp (pe_lst h.pa) fun σ H Q ⟨Hf, Hh, Hx, ρ, P, S, q⟩ => ?_, mono_lst h.mo⟩
  refine LA.at h.mo P S q (fun ds hd vs H' Hf' Hh' T' P' R' => ?_) (fun c hc => hc)
  have e := R'.length
  exact ⟨by rw [e]; exact hd.1, fun p hp => hd.2 p _ H' Hf' Hh' T' P' hp ⟨vs, rfl, by rw [e]; exact hd.1, R'⟩⟩

abbrev SF := List D → (D → Prop) → (String → Prop) → Prop
def MonoS (S : SF) : Prop := ∀ ds (K1 K2 : D → Prop) (X1 X2 : String → Prop), (∀ d, K1 d → K2 d) → (∀ c, X1 c → X2 c) → S ds K1 X1 → S ds K2 X2
/-- a def's promise by its data; CA: where the exceptions' classes stand -/
def spW (K : PySem.W.Frag) (CA : String → Addr) (S : SF) : Sp := fun vs H Q E => ∃ Hf Hh Hx ds, Pt H Hf Hh Hx ∧ RpAll K Hf Hh vs ds ∧ S ds (Bk K Hf Hh Hx Q) (Bx Hf Hh Hx fun c H' => E (.ref (CA c)) none H')
/-- the wish of exceptions -/
def EX (CA : String → Addr) (xw : XW) : XK := fun cls d H => ∃ c, cls = .ref (CA c) ∧ d = none ∧ xw c H
structure Ctx (X : Cx) (CA : String → Addr) (xw : XW) : Prop where
  calm : X.calm = true
  pass : ∀ σ, PassesAt (L2.CX X.prog X.w) X σ (EX CA xw)
def noX : XW := fun _ _ => False
theorem Ctx.no {X : Cx} {CA : String → Addr} (h : X.calm = true) : Ctx X CA noX := ⟨h, fun σ pins H s e s' I c => by
  obtain ⟨_, _, _, _, _, _, _, _, _, _, _, _, c, _, _, z⟩ := c
  exact z.elim⟩
/-- a def of the module that keeps its promise, called by at most level k -/
structure DFn (P : Program) (w : World) (K : PySem.W.Frag) (mg : Str → Option Value) (base : Heap) (CA : String → Addr) (k : Nat) (x : Str) (S : SF) : Prop where
  ex : ∃ (f : Addr) (fd : FuncData) (ps : List Str), FnOk P w K mg base (L2.CX P w) k f fd ps (spW K CA S) ∧ mg x = some (.ref f) ∧ PySem.W.keepIn K (.ref f) = true ∧ Binds K fd ps []
  mo : MonoS S
def callW (S : SF) (f : WA) : WE := fun ρ K Xc => f ρ (fun ds => S ds K Xc) Xc
theorem mono_call {S : SF} {f : WA} (mS : MonoS S) (m : MonoA f) : MonoE (callW S f) := fun ρ K1 K2 X1 X2 hk hx h => m _ _ _ _ _ (fun ds q => mS _ _ _ _ _ hk hx q) hx h
theorem ed_call {CA : String → Addr} {k : Nat} {S : SF} {x : Str} {e : Expr} {es : List Expr} {f : WA} {p pos : Pos} (G : DFn X.prog X.w X.K X.mg X.base CA k x S) (C : Ctx X CA xw) (hr : Room k X.A) (hg : Gl X x) (h : AD X xw (e :: es) f)
    (hdb : (x == ("__debug__" : Str)) = false := by decide) (he : starEach (e :: es) X.env = (false, eval e X.env) :: starEach es X.env := by rfl) (hpl : (backTo pos (starEach es X.env)).any (·.1) = false := by rfl) :
    ED X xw (.Call (.Name x p) (e :: es) [] pos) (callW S f) := by
  obtain ⟨fa, fd, ps, F, hm, hk, hb⟩ := G.ex
  refine ⟨PE.imp (pe_callS (E := fun _ => EX CA xw) F hr hg hm hk hb C.pass h.pa hdb he hpl) fun σ H Q ⟨Hf, Hh, Hx, ρ, P, Sv, q⟩ => ?_, mono_call G.mo h.mo⟩
  refine LA.at h.mo P Sv q (fun ds hd vs H' Hf' Hh' T' P' R' => ?_) (fun c hc => hc)
  exact ⟨Hf', Hh', Hx, ds, P', R', G.mo _ _ _ _ _ (fun d b => b.tr T') (fun c b H2 Hf2 Hh2 T2 P2 => ⟨c, rfl, rfl, b H2 Hf2 Hh2 (T'.trans T2) P2⟩) hd⟩
theorem ed_call0 {CA : String → Addr} {k : Nat} {S : SF} {x : Str} {p pos : Pos} (G : DFn X.prog X.w X.K X.mg X.base CA k x S) (C : Ctx X CA xw) (hr : Room k X.A) (hg : Gl X x)
    (hdb : (x == ("__debug__" : Str)) = false := by decide) : ED X xw (.Call (.Name x p) [] [] pos) (callW S nilA) := by
  obtain ⟨fa, fd, ps, F, hm, hk, hb⟩ := G.ex
  refine ⟨PE.imp (pe_call0 (dvs := []) (ds := []) (E := EX CA xw) F hr hg hm hk hb .nil (fun pins σ H s e s' I c => C.pass σ pins H s e s' I c) hdb) fun σ H Q ⟨Hf, Hh, Hx, ρ, P, Sv, q⟩ => ?_, mono_call G.mo (ad_nil (X := X) (xw := xw)).mo⟩
  exact ⟨Hf, Hh, Hx, [], P, .nil, G.mo _ _ _ _ _ (fun d b => b) (fun c b H2 Hf2 Hh2 T2 P2 => ⟨c, rfl, rfl, b H2 Hf2 Hh2 T2 P2⟩) q⟩

abbrev W1 := List D → (D → Prop) → Prop
def Mono1 (g : W1) : Prop := ∀ ds (K1 K2 : D → Prop), (∀ d, K1 d → K2 d) → g ds K1 → g ds K2
def L1r (K : PySem.W.Frag) (g : W1) : List V → Hp → VK → Prop := fun xs H Q => ∃ Hf Hh Hx ds, Pt H Hf Hh Hx ∧ RpAll K Hf Hh xs ds ∧ g ds (Bk K Hf Hh Hx Q)
def L1f (K : PySem.W.Frag) (g : W1) : List V → Hp → VK → Prop := fun xs H Q => ∃ Hf Hh Hx ds, Pt H Hf Hh Hx ∧ RpAll K Hf Hh xs ds ∧ g ds (Bf K Hf Hh Hx Q)
structure CallD (X : Cx) (f : Value) (g : W1) : Prop where
  cr : CallR X f (L1r X.K g)
  mo : Mono1 g
structure CallF (X : Cx) (f : Value) (g : W1) : Prop where
  cr : CallR X f (L1f X.K g)
  mo : Mono1 g
theorem CallF.d {f : Value} {g : W1} (h : CallF X f g) : CallD X f g :=
  ⟨CallR.imp h.cr fun xs H Q ⟨Hf, Hh, Hx, ds, P, R, q⟩ => ⟨Hf, Hh, Hx, ds, P, R, h.mo _ _ _ (fun d b => b.bf) q⟩, h.mo⟩
def bltW (g : W1) (f : WA) : WE := fun ρ K Xc => f ρ (fun ds => g ds K) Xc
theorem mono_blt {g : W1} {f : WA} (mg : Mono1 g) (m : MonoA f) : MonoE (bltW g f) := fun ρ K1 K2 X1 X2 hk hx h => m _ _ _ _ _ (fun ds q => mg _ _ _ hk q) hx h
theorem blt_imp {g : W1} {f : WA} {es : List Expr} (mg : Mono1 g) (h : AD X xw es f) (σ : St) (H : Hp) (Q : VK) (q : LE X.K xw (bltW g f) σ H Q) : tCB (L1r X.K g) (LA X.K xw f) σ H Q := by
  obtain ⟨Hf, Hh, Hx, ρ, P, S, q⟩ := q
  refine LA.at h.mo P S q (fun ds hd vs H' Hf' Hh' T' P' R' => ?_) (fun c hc => hc)
  exact ⟨Hf', Hh', Hx, ds, P', R', mg _ _ _ (fun d b => b.tr T') hd⟩
theorem bltf_imp {g : W1} {f : WA} {es : List Expr} (mg : Mono1 g) (h : AD X xw es f) (σ : St) (H : Hp) (Q : VK) (q : LF X.K xw (bltW g f) σ H Q) : tCB (L1f X.K g) (LA X.K xw f) σ H Q := by
  obtain ⟨Hf, Hh, Hx, ρ, P, S, q⟩ := q
  refine LA.at h.mo P S q (fun ds hd vs H' Hf' Hh' T' P' R' => ?_) (fun c hc => hc)
  exact ⟨Hf', Hh', Hx, ds, P', R', mg _ _ _ (fun d b => b.tr T') hd⟩
section
variable {x : Str} {p pos : Pos} {e : Expr} {es : List Expr} {f : WA} {id T : String} {g : W1}
theorem ed_blt (hc : CallD X (.builtin id) g) (hg : Gl X x) (hm : X.mg x = none) (hv : bootBuiltins x = some (.builtin id)) (ha : AD X xw (e :: es) f) (hn : x ≠ "__name__" := by decide) (hdb : (x == ("__debug__" : Str)) = false := by decide)
    (he : starEach (e :: es) X.env = (false, eval e X.env) :: starEach es X.env := by rfl) (hpl : (backTo pos (starEach es X.env)).any (·.1) = false := by rfl) : ED X xw (.Call (.Name x p) (e :: es) [] pos) (bltW g f) :=
  ⟨PE.imp (pe_callB hc.cr hg hm hv ha.pa hn hdb he hpl) (blt_imp hc.mo ha), mono_blt hc.mo ha.mo⟩
theorem ed_bltT (hc : CallD X (.type T) g) (hg : Gl X x) (hm : X.mg x = none) (hv : bootBuiltins x = some (.type T)) (ha : AD X xw (e :: es) f) (hn : x ≠ "__name__" := by decide) (hdb : (x == ("__debug__" : Str)) = false := by decide)
    (he : starEach (e :: es) X.env = (false, eval e X.env) :: starEach es X.env := by rfl) (hpl : (backTo pos (starEach es X.env)).any (·.1) = false := by rfl) : ED X xw (.Call (.Name x p) (e :: es) [] pos) (bltW g f) :=
  ⟨PE.imp (pe_callTy hc.cr hg hm hv ha.pa hn hdb he hpl) (blt_imp hc.mo ha), mono_blt hc.mo ha.mo⟩
theorem fd_blt (hc : CallF X (.builtin id) g) (hg : Gl X x) (hm : X.mg x = none) (hv : bootBuiltins x = some (.builtin id)) (ha : AD X xw (e :: es) f) (hn : x ≠ "__name__" := by decide) (hdb : (x == ("__debug__" : Str)) = false := by decide)
    (he : starEach (e :: es) X.env = (false, eval e X.env) :: starEach es X.env := by rfl) (hpl : (backTo pos (starEach es X.env)).any (·.1) = false := by rfl) : FD X xw (.Call (.Name x p) (e :: es) [] pos) (bltW g f) :=
  ⟨PE.imp (pe_callB hc.cr hg hm hv ha.pa hn hdb he hpl) (bltf_imp hc.mo ha), mono_blt hc.mo ha.mo⟩
theorem fd_bltT (hc : CallF X (.type T) g) (hg : Gl X x) (hm : X.mg x = none) (hv : bootBuiltins x = some (.type T)) (ha : AD X xw (e :: es) f) (hn : x ≠ "__name__" := by decide) (hdb : (x == ("__debug__" : Str)) = false := by decide)
    (he : starEach (e :: es) X.env = (false, eval e X.env) :: starEach es X.env := by rfl) (hpl : (backTo pos (starEach es X.env)).any (·.1) = false := by rfl) : FD X xw (.Call (.Name x p) (e :: es) [] pos) (bltW g f) :=
  ⟨PE.imp (pe_callTy hc.cr hg hm hv ha.pa hn hdb he hpl) (bltf_imp hc.mo ha), mono_blt hc.mo ha.mo⟩
/-- a built-in's name as a value (isinstance's second argument) -/
theorem ed_ty (hg : Gl X x) (hm : X.mg x = none) (hv : bootBuiltins x = some (.type T)) (hn : x ≠ "__name__" := by decide) (hd : (x == ("__debug__" : Str)) = false := by decide) : ED X xw (.Name x pos) (cstW (.raw (.ty T))) :=
  ed_cst (pe_bltn hg hm hv (v := .ty T) rfl hn hd) fun _ _ => .raw _
end
theorem RpAll.one {K : PySem.W.Frag} {Hf Hh : Hp} {xs : List V} {d : D} (r : RpAll K Hf Hh xs [d]) : ∃ v, xs = [v] ∧ Rp K Hf Hh v d := by
  cases r with | cons a b => cases b; exact ⟨_, rfl, a⟩
theorem RpAll.two {K : PySem.W.Frag} {Hf Hh : Hp} {xs : List V} {d e : D} (r : RpAll K Hf Hh xs [d, e]) : ∃ v u, xs = [v, u] ∧ Rp K Hf Hh v d ∧ Rp K Hf Hh u e := by
  cases r with | cons a b => cases b with | cons c d => cases d; exact ⟨_, _, rfl, a, c⟩
/-- len -/
def lenW : W1 := fun ds K => match ds with
  | [.list xs] => K (.int xs.length)
  | [.tuple xs] => K (.int xs.length)
  | [.str x] => x.length ≤ sizeLine ∧ K (.int x.length)
  | _ => False
theorem cd_len : CallD X (.builtin "len") lenW := by
  refine ⟨CallR.imp call_len fun xs H Q ⟨Hf, Hh, Hx, ds, P, R, q⟩ => ?_, fun ds K1 K2 hk h => ?_⟩
  · unfold lenW at q
    split at q
    · obtain ⟨v, rfl, r⟩ := R.one
      cases r with | list e z r =>
      exact ⟨_, _, rfl, .inl ⟨_, SqL.up e P.sub, rfl⟩, by rw [r.length]; exact q.now P (.int _)⟩
    · obtain ⟨v, rfl, r⟩ := R.one
      cases r with | tuple e z r =>
      exact ⟨_, _, rfl, .inr ⟨_, SqT.sub e P.sub, rfl⟩, by rw [r.length]; exact q.now P (.int _)⟩
    · obtain ⟨v, rfl, r⟩ := R.one
      cases r
      exact ⟨_, _, rfl, ⟨q.1, rfl⟩, q.2.now P (.int _)⟩
    · exact q.elim
  · unfold lenW at h ⊢
    split at h <;> first | exact hk _ h | exact ⟨h.1, hk _ h.2⟩ | exact h.elim
def absW : W1 := fun ds K => match ds with
  | [.int i] => K (.int (if i < 0 then -i else i))
  | _ => False
theorem cd_abs : CallD X (.builtin "abs") absW := by
  refine ⟨CallR.imp call_abs fun xs H Q ⟨Hf, Hh, Hx, ds, P, R, q⟩ => ?_, fun ds K1 K2 hk h => ?_⟩
  · unfold absW at q
    split at q
    · obtain ⟨v, rfl, r⟩ := R.one
      cases r; exact ⟨_, rfl, q.now P (.int _)⟩
    · exact q.elim
  · unfold absW at h ⊢
    split at h <;> first | exact hk _ h | exact h.elim
def int1W : W1 := fun ds K => match ds with
  | [.int i] => K (.int i)
  | [.bool b] => K (.int (if b then 1 else 0))
  | _ => False
theorem cd_int : CallD X (.type "int") int1W := by
  refine ⟨CallR.imp call_int1 fun xs H Q ⟨Hf, Hh, Hx, ds, P, R, q⟩ => ?_, fun ds K1 K2 hk h => ?_⟩
  · unfold int1W at q
    split at q
    · obtain ⟨v, rfl, r⟩ := R.one
      cases r; exact .inl ⟨_, rfl, q.now P (.int _)⟩
    · obtain ⟨v, rfl, r⟩ := R.one
      cases r; exact .inr ⟨_, rfl, q.now P (.int _)⟩
    · exact q.elim
  · unfold int1W at h ⊢
    split at h <;> first | exact hk _ h | exact h.elim
def max2W : W1 := fun ds K => match ds with
  | [.int i, .int j] => K (.int (if j > i then j else i))
  | _ => False
def min2W : W1 := fun ds K => match ds with
  | [.int i, .int j] => K (.int (if j < i then j else i))
  | _ => False
theorem cd_max2 (hc : X.calm = true) : CallD X (.builtin "max") max2W := by
  refine ⟨CallR.imp (call_max2 hc) fun xs H Q ⟨Hf, Hh, Hx, ds, P, R, q⟩ => ?_, fun ds K1 K2 hk h => ?_⟩
  · unfold max2W at q
    split at q
    · obtain ⟨v, u, rfl, r, r'⟩ := R.two
      cases r; cases r'; exact ⟨_, _, rfl, q.now P (.int _)⟩
    · exact q.elim
  · unfold max2W at h ⊢
    split at h <;> first | exact hk _ h | exact h.elim
theorem cd_min2 (hc : X.calm = true) : CallD X (.builtin "min") min2W := by
  refine ⟨CallR.imp (call_min2 hc) fun xs H Q ⟨Hf, Hh, Hx, ds, P, R, q⟩ => ?_, fun ds K1 K2 hk h => ?_⟩
  · unfold min2W at q
    split at q
    · obtain ⟨v, u, rfl, r, r'⟩ := R.two
      cases r; cases r'; exact ⟨_, _, rfl, q.now P (.int _)⟩
    · exact q.elim
  · unfold min2W at h ⊢
    split at h <;> first | exact hk _ h | exact h.elim
/-- tuple(list), tuple(tuple) -/
def tuple1W : W1 := fun ds K => match ds with
  | [.list xs] => K (.tuple xs)
  | [.tuple xs] => K (.tuple xs)
  | _ => False
theorem cd_tuple : CallD X (.type "tuple") tuple1W := by
  refine ⟨CallR.imp call_tupF fun xs H Q ⟨Hf, Hh, Hx, ds, P, R, q⟩ => ?_, fun ds K1 K2 hk h => ?_⟩
  · unfold tuple1W at q
    split at q
    · obtain ⟨v, rfl, r⟩ := R.one
      cases r with | list e z r =>
      exact ⟨_, _, rfl, .inl ⟨SqL.up e P.sub, q.newT P z r⟩⟩
    · obtain ⟨v, rfl, r⟩ := R.one
      cases r with | tuple e z r k =>
      exact ⟨_, _, rfl, .inr ⟨SqT.sub e P.sub, q.now P (.tuple e z r k)⟩⟩
    · exact q.elim
  · unfold tuple1W at h ⊢
    split at h <;> first | exact hk _ h | exact h.elim
/-- list(list), list(tuple) -/
def list1W : W1 := fun ds K => match ds with
  | [.list xs] => K (.list xs)
  | [.tuple xs] => K (.list xs)
  | _ => False
theorem cf_list : CallF X (.type "list") list1W := by
  refine ⟨CallR.imp call_list_of fun xs H Q ⟨Hf, Hh, Hx, ds, P, R, q⟩ => ?_, fun ds K1 K2 hk h => ?_⟩
  · unfold list1W at q
    split at q
    · obtain ⟨v, rfl, r⟩ := R.one
      cases r with | list e z r =>
      exact ⟨_, _, rfl, .inl (SqL.up e P.sub), fun l hl => q l _ H Hf Hh (Tr.refl _ _) P hl ⟨_, rfl, z, r⟩⟩
    · obtain ⟨v, rfl, r⟩ := R.one
      cases r with | tuple e z r =>
      exact ⟨_, _, rfl, .inr (SqT.sub e P.sub), fun l hl => q l _ H Hf Hh (Tr.refl _ _) P hl ⟨_, rfl, z, r⟩⟩
    · exact q.elim
  · unfold list1W at h ⊢
    split at h <;> first | exact hk _ h | exact h.elim
/-- sum of ints; all, any of bools -/
def sumW : W1 := fun ds K => match ds with
  | [.list xs] => ∃ ns : List Int, xs = ns.map D.int ∧ K (.int ns.sum)
  | _ => False
theorem cd_sum (hc : X.calm = true) : CallD X (.builtin "sum") sumW := by
  refine ⟨CallR.imp (cr_sum hc) fun xs H Q ⟨Hf, Hh, Hx, ds, P, R, q⟩ => ?_, fun ds K1 K2 hk h => ?_⟩
  · unfold sumW at q
    split at q
    · obtain ⟨v, rfl, r⟩ := R.one
      obtain ⟨ns, rfl, q⟩ := q
      cases r with | list e z r =>
      have := r.ints; subst this
      exact ⟨_, _, rfl, SqL.up e P.sub, q.now P (.int _)⟩
    · exact q.elim
  · unfold sumW at h ⊢
    split at h
    · obtain ⟨ns, e, h⟩ := h; exact ⟨ns, e, hk _ h⟩
    · exact h.elim
def allW : W1 := fun ds K => match ds with
  | [.list xs] => ∃ ns : List Bool, xs = ns.map D.bool ∧ K (.bool (ns.all id))
  | _ => False
def anyW : W1 := fun ds K => match ds with
  | [.list xs] => ∃ ns : List Bool, xs = ns.map D.bool ∧ K (.bool (ns.any id))
  | _ => False
theorem cd_all (hc : X.calm = true) : CallD X (.builtin "all") allW := by
  refine ⟨CallR.imp (cr_all hc) fun xs H Q ⟨Hf, Hh, Hx, ds, P, R, q⟩ => ?_, fun ds K1 K2 hk h => ?_⟩
  · unfold allW at q
    split at q
    · obtain ⟨v, rfl, r⟩ := R.one
      obtain ⟨ns, rfl, q⟩ := q
      cases r with | list e z r =>
      have := r.bls; subst this
      exact ⟨_, _, rfl, SqL.up e P.sub, q.now P (.bool _)⟩
    · exact q.elim
  · unfold allW at h ⊢
    split at h
    · obtain ⟨ns, e, h⟩ := h; exact ⟨ns, e, hk _ h⟩
    · exact h.elim
theorem cd_any (hc : X.calm = true) : CallD X (.builtin "any") anyW := by
  refine ⟨CallR.imp (cr_any hc) fun xs H Q ⟨Hf, Hh, Hx, ds, P, R, q⟩ => ?_, fun ds K1 K2 hk h => ?_⟩
  · unfold anyW at q
    split at q
    · obtain ⟨v, rfl, r⟩ := R.one
      obtain ⟨ns, rfl, q⟩ := q
      cases r with | list e z r =>
      have := r.bls; subst this
      exact ⟨_, _, rfl, SqL.up e P.sub, q.now P (.bool _)⟩
    · exact q.elim
  · unfold anyW at h ⊢
    split at h
    · obtain ⟨ns, e, h⟩ := h; exact ⟨ns, e, hk _ h⟩
    · exact h.elim
/-- isinstance -/
def D.ty : D → Option String
  | .non => some "NoneType"
  | .bool _ => some "bool"
  | .int _ => some "int"
  | .str _ => some "str"
  | .list _ => some "list"
  | .tuple _ => some "tuple"
  | .dict _ _ => some "dict"
  | _ => none
theorem Rp.tyx {K : PySem.W.Frag} {H Hf Hh : Hp} {v : V} {d : D} {T : String} (s : Sub Hf H) (r : Rp K Hf Hh v d) (h : d.ty = some T) : TyX K H v (.type T) := by
  cases r with
  | non => cases h; exact .base .non
  | bool b => cases h; exact .base (.bl b)
  | int i => cases h; exact .base (.int i)
  | str x => cases h; exact .base (.str x)
  | list e z r => cases h; exact .base (.lst (s _ _ e))
  | tuple e z r =>
    cases h
    rcases e with (e | ⟨o, e⟩) | ⟨o, its, n, e, c, _⟩
    · exact .base (.tup (s _ _ e))
    · exact .fTuple (s _ _ e)
    · exact .kTuple e c
  | dK e z r => cases h; exact .base (.dK (s _ _ e))
  | dT e z r => cases h; exact .base (.dT (s _ _ e))
  | hnd e k => cases h
  | scr e k => cases h
  | raw v => cases h
  | lt e z r => cases h
def isiW : W1 := fun ds K => match ds with
  | [d, .raw (.ty T)] => match d.ty with
    | some t => match kitB t T with
      | some b => K (.bool b)
      | none => False
    | none => False
  | _ => False
theorem cd_isi : CallD X (.builtin "isinstance") isiW := by
  refine ⟨CallR.imp call_isi fun xs H Q ⟨Hf, Hh, Hx, ds, P, R, q⟩ => ?_, fun ds K1 K2 hk h => ?_⟩
  · unfold isiW at q
    split at q
    · obtain ⟨v, u, rfl, r, r'⟩ := R.two
      cases r'
      split at q
      · rename_i t et
        split at q
        · rename_i b eb
          exact ⟨_, _, _, _, b, rfl, .ty _, r.tyx P.sub et, kit_ty eb, q.now P (.bool _)⟩
        · exact q.elim
      · exact q.elim
    · exact q.elim
  · unfold isiW at h ⊢
    split at h
    · split at h
      · split at h <;> first | exact hk _ h | exact h.elim
      · exact h.elim
    · exact h.elim
end
end DL

set_option Elab.async false
set_option linter.all false
set_option maxRecDepth 100000
set_option maxHeartbeats 4000000
namespace DL
open PySem PySem.Spec PyProof.Rows L2
variable [TabsC]
section
variable {X : Cx} {xw : XW}
def ixK (xs : List D) (i : Int) (K : D → Prop) : Prop := match atI xs i with
  | some d => K d
  | none => False
def ixW : W2 := fun x y K => match x, y with
  | .list xs, .int i => ixK xs i K
  | .tuple xs, .int i => ixK xs i K
  | .str z, .int i => z.length ≤ sizeLine ∧ match atI z.cps.toList i with
    | some c => K (.str ⟨#[c]⟩)
    | none => False
  | _, _ => False
theorem RpAll.atI {K : PySem.W.Frag} {Hf Hh : Hp} {vs : List V} {ds : List D} {i : Int} {d : D} (r : RpAll K Hf Hh vs ds) (h : atI ds i = some d) : ∃ v, L2.atI vs i = some v ∧ Rp K Hf Hh v d := by
  unfold L2.atI at h ⊢
  rw [r.length]
  cases e : ixN ds.length i with
  | none => rw [e] at h; cases h
  | some j =>
    rw [e] at h
    exact r.get h
theorem ixW_mono : Mono2 ixW := fun x y K1 K2 hk h => by
  unfold ixW at h ⊢
  split at h
  · unfold ixK at h ⊢; split at h <;> first | exact hk _ h | exact h.elim
  · unfold ixK at h ⊢; split at h <;> first | exact hk _ h | exact h.elim
  · refine ⟨h.1, ?_⟩
    have h := h.2
    split at h <;> first | exact hk _ h | exact h.elim
  · exact h.elim
theorem ixr : IxR X (L2r X.K ixW) := by
  refine IxR.imp ix_seq fun x y H Q ⟨Hf, Hh, Hx, dx, dy, P, rx, ry, h⟩ => ?_
  unfold ixW at h
  split at h
  · cases rx with | list e z r =>
    cases ry
    unfold ixK at h
    split at h
    · rename_i d ed
      obtain ⟨v, ev, rv⟩ := r.atI ed
      exact .inl ⟨_, _, _, v, rfl, rfl, SqL.up e P.sub, ev, h.now P rv⟩
    · exact h.elim
  · cases rx with | tuple e z r =>
    cases ry
    unfold ixK at h
    split at h
    · rename_i d ed
      obtain ⟨v, ev, rv⟩ := r.atI ed
      exact .inr (.inl ⟨_, _, _, v, rfl, rfl, SqT.sub e P.sub, ev, h.now P rv⟩)
    · exact h.elim
  · cases rx
    cases ry
    obtain ⟨hz, h⟩ := h
    split at h
    · rename_i c ec
      exact .inr (.inr ⟨_, _, c, rfl, rfl, hz, ec, h.now P (.str _)⟩)
    · exact h.elim
  · exact h.elim
theorem ed_ix {a b : Expr} {fa fb : WE} {pos : Pos} (ha : ED X xw a fa) (hb : ED X xw b fb) (hs : PlainIx b) : ED X xw (.Subscript a b pos) (binW ixW fa fb) :=
  ⟨PE.imp (pe_ix ixr ha.pe hb.pe hs) (bin_imp ixW_mono ha hb), mono_bin ixW_mono ha.mo hb.mo⟩
/-- -a -/
def negW (f : WE) : WE := fun ρ K Xc => f ρ (fun d => match d with
  | .int i => K (.int (-i))
  | _ => False) Xc
theorem ed_neg {a : Expr} {f : WE} {pos : Pos} (ha : ED X xw a f) : ED X xw (.UnaryOp .USub a pos) (negW f) := by
  refine ⟨PE.imp (pe_un un_neg ha.pe) fun σ H Q ⟨Hf, Hh, Hx, ρ, P, S, q⟩ => ?_, fun ρ K1 K2 X1 X2 hk hx h => ha.mo _ _ _ _ _ (fun d q => ?_) hx h⟩
  · refine LE.at ha.mo P S q (fun d hd v H' Hf' Hh' T' P' R' => ?_) (fun c hc => hc)
    split at hd
    · cases R'; exact ⟨_, rfl, (hd.tr T').now P' (.int _)⟩
    · exact hd.elim
  · split at q
    · exact hk _ q
    · exact q.elim

abbrev WO := Env' → (Option Int → Prop) → (String → Prop) → Prop
def MonoO (f : WO) : Prop := ∀ ρ (K1 K2 : Option Int → Prop) (X1 X2 : String → Prop), (∀ d, K1 d → K2 d) → (∀ c, X1 c → X2 c) → f ρ K1 X1 → f ρ K2 X2
def LO (K : PySem.W.Frag) (xw : XW) (f : WO) : TO := fun σ H Q => ∃ Hf Hh Hx ρ, Pt H Hf Hh Hx ∧ Sl K Hf Hh σ ρ ∧ f ρ (fun o => ∀ H' Hf' Hh', Tr Hf Hh Hf' Hh' → Pt H' Hf' Hh' Hx → Q o H') (Bx Hf Hh Hx xw)
structure OD (X : Cx) (xw : XW) (e : Option Expr) (f : WO) : Prop where
  po : PO X e (LO X.K xw f)
  mo : MonoO f
theorem PO.imp {e : Option Expr} {t t' : TO} (h : PO X e t) (k : ∀ σ H Q, t' σ H Q → t σ H Q) : PO X e t' := ⟨fun pins s σ H Q I q => h.run pins s σ H Q I (k σ H Q q)⟩
def noO : WO := fun _ K _ => K none
def someO (f : WE) : WO := fun ρ K Xc => f ρ (fun d => match d with
  | .int i => K (some i)
  | _ => False) Xc
theorem od_none : OD X xw none noO := ⟨PO.imp po_none fun σ H Q ⟨Hf, Hh, Hx, ρ, P, S, q⟩ => q H Hf Hh (Tr.refl _ _) P, fun _ _ _ _ _ hk _ h => hk _ h⟩
theorem od_some {e : Expr} {f : WE} (h : ED X xw e f) : OD X xw (some e) (someO f) := by
  refine ⟨PO.imp (po_some h.pe) fun σ H Q ⟨Hf, Hh, Hx, ρ, P, S, q⟩ => ?_, fun ρ K1 K2 X1 X2 hk hx q => h.mo _ _ _ _ _ (fun d q => ?_) hx q⟩
  · refine LE.at h.mo P S q (fun d hd v H' Hf' Hh' T' P' R' => ?_) (fun c hc => hc)
    split at hd
    · cases R'; exact ⟨_, rfl, hd H' Hf' Hh' T' P'⟩
    · exact hd.elim
  · split at q
    · exact hk _ q
    · exact q.elim
def cutD (xs : List D) (lo hi : Option Int) : List D := (xs.drop (HT.sIx xs.length 0 lo)).take (HT.sIx xs.length xs.length hi - HT.sIx xs.length 0 lo)
def slK (d : D) (lo hi : Option Int) (K : D → Prop) : Prop := match d with
  | .list xs => K (.list (cutD xs lo hi))
  | .tuple xs => K (.tuple (cutD xs lo hi))
  | .scr ns => K (.list (cutD (ns.map D.int) lo hi))
  | _ => False
def slcW (f : WE) (l u : WO) : WE := fun ρ K Xc => f ρ (fun d => l ρ (fun lo => u ρ (fun hi => slK d lo hi K) Xc) Xc) Xc
theorem RpAll.cut {K : PySem.W.Frag} {Hf Hh : Hp} {vs : List V} {ds : List D} (r : RpAll K Hf Hh vs ds) (lo hi : Option Int) : RpAll K Hf Hh (cutV vs lo hi) (cutD ds lo hi) := by
  unfold cutV cutD
  rw [r.length]
  exact RpAll.take _ (RpAll.drop _ r)
theorem cut_whole {vs : List V} {ds : List D} {K : PySem.W.Frag} {Hf Hh : Hp} {lo hi : Option Int} (r : RpAll K Hf Hh vs ds) (h : HT.sIx vs.length 0 lo = 0 ∧ HT.sIx vs.length vs.length hi = vs.length) : cutD ds lo hi = ds := by
  unfold cutD
  rw [← r.length, h.1, h.2, r.length]
  simp
def rSlD (K : PySem.W.Frag) : V → Option Int → Option Int → Hp → VK → Prop := fun x lo hi H Q => ∃ Hf Hh Hx d, Pt H Hf Hh Hx ∧ Rp K Hf Hh x d ∧ slK d lo hi (Bk K Hf Hh Hx Q)
theorem slr : SlR X (rSlD X.K) := by
  refine SlR.imp (SlR.or sl_list sl_tupF) fun x lo hi H Q ⟨Hf, Hh, Hx, d, P, r, h⟩ => ?_
  unfold slK at h
  split at h
  · cases r with | list e z r =>
    refine .inl ⟨_, _, rfl, SqL.up e P.sub, fun p hp => h.new P hp (.list upd_same (Nat.le_trans (cutV_length _ _ _) z) ((r.mono (tr_new (P.fresh hp).1)).cut lo hi))⟩
  · cases r with | tuple e z r k =>
    refine .inr ⟨_, _, rfl, SqT.sub e P.sub, fun hw => ?_, fun _ => h.newT P (Nat.le_trans (cutV_length _ _ _) z) (r.cut lo hi)⟩
    rw [cut_whole r hw] at h
    exact h.now P (.tuple e z r k)
  · cases r with | scr e z =>
    have r := RpAll.ofInts (K := X.K) (Hf := Hf) (Hh := Hh) ‹List Int›
    have z' : ((‹List Int›).map V.int).length ≤ sizeLine := by rw [List.length_map]; exact z
    exact .inl ⟨_, _, rfl, SqL.sub e P.sub, fun p hp => h.new P hp (.list upd_same (Nat.le_trans (cutV_length _ _ _) z') ((r.mono (tr_new (P.fresh hp).1)).cut lo hi))⟩
  · exact h.elim
theorem ed_slice {e : Expr} {lo hi : Option Expr} {f : WE} {l u : WO} {p2 pos : Pos} (he : ED X xw e f) (hl : OD X xw lo l) (hu : OD X xw hi u) : ED X xw (.Subscript e (.Slice lo hi none p2) pos) (slcW f l u) := by
  refine ⟨PE.imp (pe_slice slr he.pe hl.po hu.po) fun σ H Q ⟨Hf, Hh, Hx, ρ, P, S, q⟩ => ?_, fun ρ K1 K2 X1 X2 hk hx q => he.mo _ _ _ _ _ (fun d q => hl.mo _ _ _ _ _ (fun a q => hu.mo _ _ _ _ _ (fun b q => ?_) hx q) hx q) hx q⟩
  · refine LE.at he.mo P S q (fun d h1 v H1 Hf1 Hh1 T1 P1 R1 => ?_) (fun c hc => hc)
    refine ⟨Hf1, Hh1, Hx, ρ, P1, S.mono T1, hl.mo _ _ _ _ _ (fun a h2 H2 Hf2 Hh2 T2 P2 => ?_) (fun c hc => hc.tr T1) h1⟩
    refine ⟨Hf2, Hh2, Hx, ρ, P2, S.mono (T1.trans T2), hu.mo _ _ _ _ _ (fun b h3 H3 Hf3 Hh3 T3 P3 => ?_) (fun c hc => hc.tr (T1.trans T2)) h2⟩
    refine ⟨Hf3, Hh3, Hx, d, P3, R1.mono (T2.trans T3), ?_⟩
    unfold slK at h3 ⊢
    split at h3
    · exact h3.tr (T1.trans (T2.trans T3))
    · exact h3.tr (T1.trans (T2.trans T3))
    · exact h3.tr (T1.trans (T2.trans T3))
    · exact h3.elim
  · unfold slK at q ⊢
    split at q <;> first | exact hk _ q | exact q.elim

/-- the walk yields the data ds, one by one, whatever happens to hands and to the rest -/
def Walks (K : PySem.W.Frag) (Hf Hh : Hp) (J : It) (ds : List D) : Prop := ∀ (i : Nat) H' Hf' Hh' Hx', Tr Hf Hh Hf' Hh' → Pt H' Hf' Hh' Hx' →
  (i < ds.length → J.go i H' ∧ ∀ x H3, J.yld i H' x H3 → ∃ Hf3 d, Tr Hf' Hh' Hf3 Hh' ∧ Pt H3 Hf3 Hh' Hx' ∧ ds[i]? = some d ∧ Rp K Hf3 Hh' x d) ∧ (ds.length ≤ i → J.stop i H')
theorem Walks.mono {K : PySem.W.Frag} {Hf Hh Hf' Hh' : Hp} {J : It} {ds : List D} (w : Walks K Hf Hh J ds) (t : Tr Hf Hh Hf' Hh') : Walks K Hf' Hh' J ds := fun i H' Hf2 Hh2 Hx' t2 P => w i H' Hf2 Hh2 Hx' (t.trans t2) P
def Bi (K : PySem.W.Frag) (Hf Hh Hx : Hp) (R : It → Hp → Prop) (ds : List D) : Prop := ∀ J H' Hf' Hh', Tr Hf Hh Hf' Hh' → Pt H' Hf' Hh' Hx → Walks K Hf' Hh' J ds → ds.length ≤ sizeLine → R J H'
theorem Bi.tr {K : PySem.W.Frag} {Hf Hh Hf' Hh' Hx : Hp} {R : It → Hp → Prop} {d : List D} (t : Tr Hf Hh Hf' Hh') (b : Bi K Hf Hh Hx R d) : Bi K Hf' Hh' Hx R d := fun v H' a b' u => b v H' a b' (t.trans u)
def LI (K : PySem.W.Frag) (xw : XW) (f : WA) : TI := fun σ H R => ∃ Hf Hh Hx ρ, Pt H Hf Hh Hx ∧ Sl K Hf Hh σ ρ ∧ f ρ (Bi K Hf Hh Hx R) (Bx Hf Hh Hx xw)
structure ID (X : Cx) (xw : XW) (tg e : Expr) (f : WA) : Prop where
  pi : PI X tg e (LI X.K xw f)
  mo : MonoA f
theorem PI.imp {tg e : Expr} {t t' : TI} (h : PI X tg e t) (k : ∀ σ H R, t' σ H R → t σ H R) : PI X tg e t' := ⟨fun pins s σ H R I q => h.run pins s σ H R I (k σ H R q)⟩
theorem walks_list {K : PySem.W.Frag} {Hf Hh : Hp} {a : Addr} {vs : List V} {ds : List D} (e : Hf a = some (.lst vs)) (r : RpAll K Hf Hh vs ds) : Walks K Hf Hh (Itl K a) ds := fun i H' Hf' Hh' Hx' t P => by
  have e' : H' a = some (.lst vs) := P.sub _ _ (t.s _ _ e)
  refine ⟨fun hi => ?_, fun hi => ⟨vs, SqL.of e', by rw [r.length]; exact hi⟩⟩
  have hi' : i < vs.length := by rw [r.length]; exact hi
  refine ⟨⟨vs, vs[i], SqL.of e', by simp [hi']⟩, fun x H3 y => ?_⟩
  obtain ⟨rfl, y⟩ := y
  have hx := y vs (SqL.of e')
  obtain ⟨d, hd, rd⟩ := r.getV hx
  exact ⟨Hf', d, Tr.refl _ _, P, hd, rd.mono t⟩
theorem walks_tup {K : PySem.W.Frag} {Hf Hh : Hp} {a : Addr} {vs : List V} {ds : List D} (e : SqT K Hf a vs) (r : RpAll K Hf Hh vs ds) : Walks K Hf Hh (Itt K a) ds := fun i H' Hf' Hh' Hx' t P => by
  have e' : SqT K H' a vs := SqT.sub (SqT.sub e t.s) P.sub
  refine ⟨fun hi => ?_, fun hi => ⟨vs, e', by rw [r.length]; exact hi⟩⟩
  have hi' : i < vs.length := by rw [r.length]; exact hi
  refine ⟨⟨vs, vs[i], e', by simp [hi']⟩, fun x H3 y => ?_⟩
  obtain ⟨rfl, y⟩ := y
  have hx := y vs e'
  obtain ⟨d, hd, rd⟩ := r.getV hx
  exact ⟨Hf', d, Tr.refl _ _, P, hd, rd.mono t⟩
/-- a list or a tuple -/
def iSeq (K : PySem.W.Frag) (tl : TE) : TI := fun σ H R => tl σ H fun x H1 => (∃ a, x = .ref a ∧ (∃ xs, SqL K H1 a xs) ∧ R (Itl K a) H1) ∨ (∃ a, x = .ref a ∧ (∃ xs, SqT K H1 a xs) ∧ R (Itt K a) H1) ∨ (∃ z, x = .str z ∧ R (Its z) H1)
theorem pi_seq {tg l : Expr} {tl : TE} (hl : PE X l tl) : PI X tg l (iSeq X.K tl) := by
  refine ⟨fun pins s σ H R I h => ?_⟩
  refine thn (hl.run pins s σ H _ I h) fun v s1 ⟨x, H1, I1, r1, q1⟩ => ?_
  rcases q1 with ⟨a, e, ⟨xs, hq⟩, q⟩ | ⟨a, e, ⟨xs, hq⟩, q⟩ | ⟨z, e, q⟩
  · subst e
    cases r1
    obtain ⟨its, rv, p, hz⟩ := I1.list hq
    refine wpAny_pyIter_list p.isList ?_
    refine ⟨s1.heap.objs.size, [s1.heap.objs.size], _, _, H1, rfl, I1.kept (t' := s1.toks) fun b o e => Heap.get?_push_of_some _ e, turn_list a _, ⟨_, Heap.get?_push_size _ rfl, rfl, rfl⟩, fun b hb => ?_, q⟩
    have e : b = s1.heap.objs.size := by simpa using hb
    subst e
    exact I1.fpOk (Nat.le_refl _) (I1.hok.fresh (Nat.le_refl _))
  · subst e
    cases r1
    obtain ⟨its, rv, p, hz⟩ := I1.tuple hq
    refine wpAny_pyIter_tuple (show s1.heap.IsTuple a its.toArray from p) ?_
    refine ⟨s1.heap.objs.size, [s1.heap.objs.size], _, _, H1, rfl, I1.kept (t' := s1.toks) fun b o e => Heap.get?_push_of_some _ e, turn_tuple a _, ⟨_, Heap.get?_push_size _ rfl, rfl, rfl⟩, fun b hb => ?_, q⟩
    have e : b = s1.heap.objs.size := by simpa using hb
    subst e
    exact I1.fpOk (Nat.le_refl _) (I1.hok.fresh (Nat.le_refl _))
  · subst e
    obtain ⟨t, rfl⟩ := r1
    cases ha : z.cps.all (· < 128)
    · exact wpAny_pyIter_wide ha (pi_one (tk := s1.toks) I1 _ (turn_str _ z t "str_iterator" (.inr rfl)) ⟨_, Heap.get?_push_size _ rfl, rfl, rfl⟩ q)
    · exact wpAny_pyIter_ascii ha (pi_one (tk := s1.toks) I1 _ (turn_str _ z t "str_ascii_iterator" (.inl rfl)) ⟨_, Heap.get?_push_size _ rfl, rfl, rfl⟩ q)
theorem walks_str {K : PySem.W.Frag} {Hf Hh : Hp} (z : Str) : Walks K Hf Hh (Its z) (z.cps.toList.map fun c => D.str ⟨#[c]⟩) := fun i H' Hf' Hh' Hx' t P => by
  have e : (z.cps.toList.map fun c => D.str ⟨#[c]⟩).length = z.cps.size := by simp
  refine ⟨fun hi => ⟨by rw [e] at hi; exact hi, fun x H3 y => ?_⟩, fun hi => by rw [e] at hi; exact hi⟩
  obtain ⟨rfl, c, hc, rfl⟩ := y
  exact ⟨Hf', .str ⟨#[c]⟩, Tr.refl _ _, P, by simp [hc], .str _⟩
def seqK (K : List D → Prop) (d : D) : Prop := match d with
  | .list xs => K xs
  | .tuple xs => K xs
  | .str z => z.cps.size ≤ sizeLine ∧ K (z.cps.toList.map fun c => D.str ⟨#[c]⟩)
  | _ => False
def seqA (f : WE) : WA := fun ρ K Xc => f ρ (seqK K) Xc
theorem id_seq {tg e : Expr} {f : WE} (h : ED X xw e f) : ID X xw tg e (seqA f) := by
  refine ⟨PI.imp (pi_seq h.pe) fun σ H R ⟨Hf, Hh, Hx, ρ, P, S, q⟩ => ?_, fun ρ K1 K2 X1 X2 hk hx q => h.mo _ _ _ _ _ (fun d q => ?_) hx q⟩
  · refine LE.at h.mo P S q (fun d hd v H' Hf' Hh' T' P' R' => ?_) (fun c hc => hc)
    unfold seqK at hd
    split at hd
    · cases R' with | list e z r =>
      exact .inl ⟨_, rfl, ⟨_, SqL.up e P'.sub⟩, hd _ H' Hf' Hh' T' P' (walks_list e r) (by rw [← r.length]; exact z)⟩
    · cases R' with | tuple e z r =>
      exact .inr (.inl ⟨_, rfl, ⟨_, SqT.sub e P'.sub⟩, hd _ H' Hf' Hh' T' P' (walks_tup e r) (by rw [← r.length]; exact z)⟩)
    · cases R'
      exact .inr (.inr ⟨_, rfl, hd.2 _ H' Hf' Hh' T' P' (walks_str _) (by simpa using hd.1)⟩)
    · exact hd.elim
  · unfold seqK at q ⊢
    split at q <;> first | exact hk _ q | exact ⟨q.1, hk _ q.2⟩ | exact q.elim
end
end DL

set_option Elab.async false
set_option linter.all false
set_option maxRecDepth 100000
set_option maxHeartbeats 4000000
namespace DL
open PySem PySem.Spec PyProof.Rows L2
variable [TabsC]
section
variable {X : Cx} {xw : XW}
def rgD (lo : Int) (n : Nat) : List D := (List.range n).map fun k => D.int (lo + (k : Nat))
theorem rgD_length (lo : Int) (n : Nat) : (rgD lo n).length = n := by simp [rgD]
theorem walks_rg {K : PySem.W.Frag} {Hf Hh : Hp} (lo : Int) (n : Nat) : Walks K Hf Hh (Itr lo n) (rgD lo n) := fun i H' Hf' Hh' Hx' t P => by
  refine ⟨fun hi => ?_, fun hi => by rw [rgD_length] at hi; exact hi⟩
  rw [rgD_length] at hi
  refine ⟨hi, fun x H3 y => ?_⟩
  obtain ⟨rfl, rfl⟩ := y
  exact ⟨Hf', .int (lo + i), Tr.refl _ _, P, by simp [rgD, hi], .int _⟩
def rng1A (f : WA) : WA := fun ρ K Xc => f ρ (fun ds => match ds with
  | [.int j] => (-4611686018427387904 ≤ j ∧ j ≤ 16777216) ∧ K (rgD 0 j.toNat)
  | _ => False) Xc
theorem id_rng1 {tg a : Expr} {f : WA} {p pos : Pos} (hg : Gl X "range") (hm : X.mg "range" = none) (ha : AD X xw [a] f) (hs : starEach [a] X.env = [(false, eval a X.env)] := by rfl) : ID X xw tg (.Call (.Name "range" p) [a] [] pos) (rng1A f) := by
  refine ⟨PI.imp (pi_range1 hg hm ha.pa hs) fun σ H R ⟨Hf, Hh, Hx, ρ, P, S, q⟩ => ?_, fun ρ K1 K2 X1 X2 hk hx q => ha.mo _ _ _ _ _ (fun d q => ?_) hx q⟩
  · refine LA.at ha.mo P S q (fun ds hd vs H' Hf' Hh' T' P' R' => ?_) (fun c hc => hc)
    split at hd
    · obtain ⟨v, rfl, r⟩ := R'.one
      cases r
      obtain ⟨⟨h1, h2⟩, hd⟩ := hd
      exact ⟨_, rfl, by omega, by omega, hd _ H' Hf' Hh' T' P' (walks_rg _ _) (by rw [rgD_length, sizeLine_eq]; omega)⟩
    · exact hd.elim
  · split at q
    · exact ⟨q.1, hk _ q.2⟩
    · exact q.elim
def rng2A (f : WA) : WA := fun ρ K Xc => f ρ (fun ds => match ds with
  | [.int i, .int j] => (-1000000000 ≤ i ∧ i ≤ 1000000000 ∧ -1000000000 ≤ j ∧ j - i ≤ 16777216) ∧ K (rgD i (j - i).toNat)
  | _ => False) Xc
theorem id_rng2 {tg a b : Expr} {f : WA} {p pos : Pos} (hg : Gl X "range") (hm : X.mg "range" = none) (ha : AD X xw [a, b] f) (hs : starEach [a, b] X.env = [(false, eval a X.env), (false, eval b X.env)] := by rfl) (hs2 : starEach [b] X.env = [(false, eval b X.env)] := by rfl) :
    ID X xw tg (.Call (.Name "range" p) [a, b] [] pos) (rng2A f) := by
  refine ⟨PI.imp (pi_range2 hg hm ha.pa hs hs2) fun σ H R ⟨Hf, Hh, Hx, ρ, P, S, q⟩ => ?_, fun ρ K1 K2 X1 X2 hk hx q => ha.mo _ _ _ _ _ (fun d q => ?_) hx q⟩
  · refine LA.at ha.mo P S q (fun ds hd vs H' Hf' Hh' T' P' R' => ?_) (fun c hc => hc)
    split at hd
    · obtain ⟨v, u, rfl, r, r'⟩ := R'.two
      cases r; cases r'
      obtain ⟨⟨h1, h2, h3, h4⟩, hd⟩ := hd
      exact ⟨_, _, rfl, ⟨by omega, by omega, by omega, by omega⟩, hd _ H' Hf' Hh' T' P' (walks_rg _ _) (by rw [rgD_length, sizeLine_eq]; omega)⟩
    · exact hd.elim
  · split at q
    · exact ⟨q.1, hk _ q.2⟩
    · exact q.elim
def rgcD (lo c : Int) (n : Nat) : List D := (List.range n).map fun k => D.int (lo + (k : Nat) * c)
theorem rgcD_length (lo c : Int) (n : Nat) : (rgcD lo c n).length = n := by simp [rgcD]
theorem walks_rgc {K : PySem.W.Frag} {Hf Hh : Hp} (lo c : Int) (n : Nat) : Walks K Hf Hh (Itc lo c n) (rgcD lo c n) := fun i H' Hf' Hh' Hx' t P => by
  refine ⟨fun hi => ?_, fun hi => by rw [rgcD_length] at hi; exact hi⟩
  rw [rgcD_length] at hi
  refine ⟨hi, fun x H3 y => ?_⟩
  obtain ⟨rfl, rfl⟩ := y
  exact ⟨Hf', .int (lo + i * c), Tr.refl _ _, P, by simp [rgcD, hi], .int _⟩
def rng3A (f : WA) : WA := fun ρ K Xc => f ρ (fun ds => match ds with
  | [.int i, .int j, .int c] => ∃ n, (RgC i j c n ∧ n ≤ 16777216) ∧ K (rgcD i c n)
  | _ => False) Xc
theorem id_rng3 {tg a b c : Expr} {f : WA} {p pos : Pos} (hg : Gl X "range") (hm : X.mg "range" = none) (ha : AD X xw [a, b, c] f)
    (hs : starEach [a, b, c] X.env = (false, eval a X.env) :: starEach [b, c] X.env := by rfl) (hpl : (backTo pos (starEach [b, c] X.env)).any (·.1) = false := by rfl) :
    ID X xw tg (.Call (.Name "range" p) [a, b, c] [] pos) (rng3A f) := by
  refine ⟨PI.imp (pi_range3 hg hm ha.pa hs hpl) fun σ H R ⟨Hf, Hh, Hx, ρ, P, S, q⟩ => ?_, fun ρ K1 K2 X1 X2 hk hx q => ha.mo _ _ _ _ _ (fun d q => ?_) hx q⟩
  · refine LA.at ha.mo P S q (fun ds hd vs H' Hf' Hh' T' P' R' => ?_) (fun c hc => hc)
    split at hd
    · obtain ⟨n, ⟨h1, h2⟩, hd⟩ := hd
      cases R' with
      | cons r1 r2 =>
        cases r2 with
        | cons r2 r3 =>
          cases r3 with
          | cons r3 r4 =>
            cases r4; cases r1; cases r2; cases r3
            exact ⟨_, _, _, n, rfl, h1, hd _ H' Hf' Hh' T' P' (walks_rgc _ _ _) (by rw [rgcD_length, sizeLine_eq]; omega)⟩
    · exact hd.elim
  · split at q
    · obtain ⟨n, h, q⟩ := q; exact ⟨n, h, hk _ q⟩
    · exact q.elim

def zipD (xs ys : List D) : List D := List.zipWith (fun x y => D.lt [x, y]) xs ys
theorem two_le : 2 ≤ sizeLine := by rw [sizeLine_eq]; decide
theorem zip_item {K : PySem.W.Frag} {Hf Hh Hx H : Hp} {vs ws : List V} {ds es : List D} {i : Nat} {x y : V} {T : Addr} (r : RpAll K Hf Hh vs ds) (r' : RpAll K Hf Hh ws es) (hx : vs[i]? = some x) (hy : ws[i]? = some y) (P : Pt H Hf Hh Hx) (hT : H T = none) :
    ∃ Hf3 d, Tr Hf Hh Hf3 Hh ∧ Pt (upd H T (.tup [x, y])) Hf3 Hh Hx ∧ (zipD ds es)[i]? = some d ∧ Rp K Hf3 Hh (.ref T) d := by
  obtain ⟨d, hd, rd⟩ := r.getV hx
  obtain ⟨e, he, re⟩ := r'.getV hy
  have t := tr_new (Hh := Hh) (o := HO.tup [x, y]) (P.fresh hT).1
  exact ⟨_, .lt [d, e], t, P.newF hT, by simp [zipD, List.getElem?_zipWith, hd, he], .lt (.inl (.inl upd_same)) two_le (.cons (rd.mono t) (.cons (re.mono t) .nil))⟩
theorem walks_zipL {K : PySem.W.Frag} {Hf Hh : Hp} {a b : Addr} {vs ws : List V} {ds es : List D} (e : Hf a = some (.lst vs)) (e' : Hf b = some (.lst ws)) (r : RpAll K Hf Hh vs ds) (r' : RpAll K Hf Hh ws es) : Walks K Hf Hh (Itz K a b) (zipD ds es) := fun i H' Hf' Hh' Hx' t P => by
  have e1 : H' a = some (.lst vs) := P.sub _ _ (t.s _ _ e)
  have e2 : H' b = some (.lst ws) := P.sub _ _ (t.s _ _ e')
  have l1 := r.length; have l2 := r'.length
  have hl : (zipD ds es).length = min ds.length es.length := by simp [zipD]
  refine ⟨fun hi => ?_, fun hi => ⟨vs, ws, SqL.of e1, SqL.of e2, by omega⟩⟩
  refine ⟨⟨vs, ws, vs[i]'(by omega), ws[i]'(by omega), SqL.of e1, SqL.of e2, by simp, by simp⟩, fun x H3 y => ?_⟩
  obtain ⟨T, x1, x2, rfl, hT, rfl, y1, y2⟩ := y
  exact zip_item (r.mono t) (r'.mono t) (y1 _ (SqL.of e1)) (y2 _ (SqL.of e2)) P hT
theorem walks_zipT {K : PySem.W.Frag} {Hf Hh : Hp} {a b : Addr} {vs ws : List V} {ds es : List D} (e : SqT K Hf a vs) (e' : SqT K Hf b ws) (r : RpAll K Hf Hh vs ds) (r' : RpAll K Hf Hh ws es) : Walks K Hf Hh (RZ.ItzT K a b) (zipD ds es) := fun i H' Hf' Hh' Hx' t P => by
  have e1 : SqT K H' a vs := SqT.sub (SqT.sub e t.s) P.sub
  have e2 : SqT K H' b ws := SqT.sub (SqT.sub e' t.s) P.sub
  have l1 := r.length; have l2 := r'.length
  have hl : (zipD ds es).length = min ds.length es.length := by simp [zipD]
  refine ⟨fun hi => ?_, fun hi => ⟨vs, ws, e1, e2, by omega⟩⟩
  refine ⟨⟨vs, ws, vs[i]'(by omega), ws[i]'(by omega), e1, e2, by simp, by simp⟩, fun x H3 y => ?_⟩
  obtain ⟨T, x1, x2, rfl, hT, rfl, y1, y2⟩ := y
  exact zip_item (r.mono t) (r'.mono t) (y1 _ e1) (y2 _ e2) P hT
def zipA (f : WA) : WA := fun ρ K Xc => f ρ (fun ds => match ds with
  | [.list xs, .list ys] => K (zipD xs ys)
  | [.tuple xs, .tuple ys] => K (zipD xs ys)
  | _ => False) Xc
theorem id_zip {e e2 : Expr} {f : WA} {p pos tpos : Pos} {elts : List Expr} {kk : Nat} (hg : Gl X "zip") (hm : X.mg "zip" = none) (ha : AD X xw [e, e2] f)
    (hs : starEach [e, e2] X.env = (false, eval e X.env) :: starEach [e2] X.env := by rfl) (hpl : (backTo pos (starEach [e2] X.env)).any (·.1) = false := by rfl) : ID X xw (.Tuple elts kk tpos) (.Call (.Name "zip" p) [e, e2] [] pos) (zipA f) := by
  refine ⟨PI.imp (RZ.pi_zipA hg hm ha.pa hs hpl) fun σ H R ⟨Hf, Hh, Hx, ρ, P, S, q⟩ => ?_, fun ρ K1 K2 X1 X2 hk hx q => ha.mo _ _ _ _ _ (fun d q => ?_) hx q⟩
  · refine LA.at ha.mo P S q (fun ds hd vs H' Hf' Hh' T' P' R' => ?_) (fun c hc => hc)
    split at hd
    · obtain ⟨v, u, rfl, r, r'⟩ := R'.two
      cases r with | list e1 z1 r1 =>
      cases r' with | list e2 z2 r2 =>
      exact ⟨_, _, _, _, rfl, .inl ⟨SqL.up e1 P'.sub, SqL.up e2 P'.sub, hd _ H' Hf' Hh' T' P' (walks_zipL e1 e2 r1 r2) (by have := r1.length; simp only [zipD, List.length_zipWith]; omega)⟩⟩
    · obtain ⟨v, u, rfl, r, r'⟩ := R'.two
      cases r with | tuple e1 z1 r1 =>
      cases r' with | tuple e2 z2 r2 =>
      exact ⟨_, _, _, _, rfl, .inr ⟨SqT.sub e1 P'.sub, SqT.sub e2 P'.sub, hd _ H' Hf' Hh' T' P' (walks_zipT e1 e2 r1 r2) (by have := r1.length; simp only [zipD, List.length_zipWith]; omega)⟩⟩
    · exact hd.elim
  · split at q
    · exact hk _ q
    · exact hk _ q
    · exact q.elim

inductive Tgt where
  | nm (i : Nat) | tup (ts : List Tgt)
mutual
/-- what a target lays where -/
def Tgt.bs : Tgt → D → Option (List (Nat × D))
  | .nm i, d => some [(i, d)]
  | .tup ts, .tuple ds => Tgt.bss ts ds
  | .tup ts, .lt ds => Tgt.bss ts ds
  | .tup _, _ => none
def Tgt.bss : List Tgt → List D → Option (List (Nat × D))
  | [], [] => some []
  | t :: ts, d :: ds => (Tgt.bs t d).bind fun a => (Tgt.bss ts ds).map fun b => a ++ b
  | _, _ => none
end
mutual
def Tgt.slots : Tgt → List Nat
  | .nm i => [i]
  | .tup ts => Tgt.slotss ts
def Tgt.slotss : List Tgt → List Nat
  | [] => []
  | t :: ts => Tgt.slots t ++ Tgt.slotss ts
end
def setV (σ : St) (us : List (Nat × V)) : St := us.foldl (fun s u => s.set u.1 (some u.2)) σ
def setE {α : Type} (ρ : List (Option α)) (bs : List (Nat × α)) : List (Option α) := bs.foldl (fun s u => s.set u.1 (some u.2)) ρ
abbrev RpB (K : PySem.W.Frag) (Hf Hh : Hp) : List (Nat × V) → List (Nat × D) → Prop := Paired fun u b => u.1 = b.1 ∧ Rp K Hf Hh u.2 b.2
structure GD (X : Cx) (tg : Expr) (T : Tgt) (g : TG) : Prop where
  pg : PG X tg g
  st : ∀ v d bs σ (H Hf Hh : Hp) (Q : St → Hp → Prop), Sub Hf H → Rp X.K Hf Hh v d → T.bs d = some bs → (∀ us, RpB X.K Hf Hh us bs → Q (setV σ us) H) → g v σ H Q
structure GDs (X : Cx) (tgs : List Expr) (T : List Tgt) (g : TGs) : Prop where
  pg : PGs X tgs g
  st : ∀ vs ds bs σ (H Hf Hh : Hp) (Q : St → Hp → Prop), Sub Hf H → RpAll X.K Hf Hh vs ds → Tgt.bss T ds = some bs → (∀ us, RpB X.K Hf Hh us bs → Q (setV σ us) H) → g vs σ H Q
  ln : tgs.length = T.length
theorem gd_nm {i : Nat} {x : Str} {pos : Pos} (hN : X.N.Nodup) (hi : X.N[i]? = some x) (hx : Loc X.env.scope x) (hf : X.fn x = true ∨ X.env.scope.names.lookup x = some .local := by first | exact .inl rfl | exact .inr rfl | assumption) : GD X (.Name x pos) (.nm i) (gName i) :=
  ⟨pg_name hN hi hx hf, fun v d bs σ H Hf Hh Q s r e k => by cases e; exact k [(i, v)] (.cons ⟨rfl, r⟩ .nil)⟩
theorem gds_nil : GDs X [] [] gNil := by
  refine ⟨pgs_nil, fun vs ds bs σ H Hf Hh Q s r e k => ?_, rfl⟩
  cases r with
  | nil => cases e; exact ⟨rfl, k [] .nil⟩
  | cons a b => cases e
theorem setV_app (σ : St) (a b : List (Nat × V)) : setV σ (a ++ b) = setV (setV σ a) b := by simp [setV, List.foldl_append]
theorem Paired.app {α β : Type} {R : α → β → Prop} : ∀ {a c : List α} {b d : List β}, Paired R a b → Paired R c d → Paired R (a ++ c) (b ++ d)
  | _, _, _, _, .nil, h => h
  | _, _, _, _, .cons r t, h => .cons r (Paired.app t h)
theorem gds_cons {e : Expr} {es : List Expr} {t : Tgt} {ts : List Tgt} {g : TG} {gs : TGs} (h : GD X e t g) (r : GDs X es ts gs) (hs : (assignEach (e :: es) X.env).map (·.2) = assign e X.env :: (assignEach es X.env).map (·.2) := by rfl) : GDs X (e :: es) (t :: ts) (gCons g gs) := by
  refine ⟨pgs_cons h.pg r.pg hs, fun vs ds bs σ H Hf Hh Q s rr eb k => ?_, by simp [r.ln]⟩
  cases rr with
  | nil => simp [Tgt.bss] at eb
  | cons a b =>
    simp only [Tgt.bss, Option.bind_eq_some_iff, Option.map_eq_some_iff] at eb
    obtain ⟨b1, e1, b2, e2, rfl⟩ := eb
    refine ⟨_, _, rfl, h.st _ _ _ σ H Hf Hh _ s a e1 fun us hu => r.st _ _ _ _ H Hf Hh _ s b e2 fun us' hu' => ?_⟩
    rw [← setV_app]
    exact k _ (Paired.app hu hu')
theorem gd_tup {es : List Expr} {kk : Nat} {ts : List Tgt} {gs : TGs} {pos : Pos} (hc : X.calm = true) (r : GDs X es ts gs) (hn : (assignEach es X.env).length = es.length := by rfl) (hst : (assignEach es X.env).findIdx? (·.1) = none := by rfl) : GD X (.Tuple es kk pos) (.tup ts) (gTup X.K es.length gs) := by
  refine ⟨pg_tup hc r.pg hn hst, fun v d bs σ H Hf Hh Q s rr eb k => ?_⟩
  have hl :  ∀ (ts : List Tgt) (ds : List D) bs, Tgt.bss ts ds = some bs → ds.length = ts.length := by
    intro ts
    induction ts with
    | nil => intro ds bs h; cases ds with
      | nil => rfl
      | cons _ _ => simp [Tgt.bss] at h
    | cons t ts ih => intro ds bs h; cases ds with
      | nil => simp [Tgt.bss] at h
      | cons d ds =>
        simp only [Tgt.bss, Option.bind_eq_some_iff, Option.map_eq_some_iff] at h
        obtain ⟨_, _, b2, e2, _⟩ := h
        simp [ih ds b2 e2]
  cases rr with
  | tuple e z r1 =>
    rw [Tgt.bs] at eb
    exact ⟨_, _, rfl, SqT.sub e s, by rw [r1.length, hl _ _ _ eb, r.ln], r.st _ _ _ σ H Hf Hh _ s r1 eb k⟩
  | lt e z r1 =>
    rw [Tgt.bs] at eb
    exact ⟨_, _, rfl, SqT.sub e s, by rw [r1.length, hl _ _ _ eb, r.ln], r.st _ _ _ σ H Hf Hh _ s r1 eb k⟩
  | _ => simp [Tgt.bs] at eb

def wipeD (ρ : Env') : List Nat → Env'
  | [] => ρ
  | v :: vs => (wipeD ρ vs).set v none
theorem wipeD_length (ρ : Env') : ∀ vs : List Nat, (wipeD ρ vs).length = ρ.length
  | [] => rfl
  | v :: vs => by rw [wipeD, List.length_set, wipeD_length ρ vs]
theorem Sl.wipe {K : PySem.W.Frag} {Hf Hh : Hp} {σ : St} {ρ : Env'} (s : Sl K Hf Hh σ ρ) : ∀ vs : List Nat, Sl K Hf Hh (L2.wipe σ vs) (wipeD ρ vs)
  | [] => s
  | v :: vs => by
    have ih := Sl.wipe s vs
    refine ⟨by rw [wipeD, L2.wipe, List.length_set, List.length_set]; exact ih.len, fun i d e => ?_⟩
    rw [wipeD] at e
    rw [L2.wipe]
    by_cases hv : v = i
    · subst hv
      rw [List.getElem?_set] at e
      simp at e
    · rw [List.getElem?_set_ne hv] at e ⊢
      exact ih.at' i d e
theorem Sl.set {K : PySem.W.Frag} {Hf Hh : Hp} {σ : St} {ρ : Env'} {i : Nat} {v : V} {d : D} (s : Sl K Hf Hh σ ρ) (r : Rp K Hf Hh v d) : Sl K Hf Hh (σ.set i (some v)) (ρ.set i (some d)) := by
  refine ⟨by simpa using s.len, fun j e h => ?_⟩
  by_cases hij : i = j
  · subst hij
    rw [List.getElem?_set] at h
    simp only [if_true] at h
    split at h
    · rename_i hl
      simp at h
      subst h
      exact ⟨v, by rw [List.getElem?_set]; simp; rw [← s.len]; exact hl, r⟩
    · cases h
  · rw [List.getElem?_set_ne hij] at h ⊢
    exact s.at' j e h
theorem Sl.sets {K : PySem.W.Frag} {Hf Hh : Hp} : ∀ {us : List (Nat × V)} {bs : List (Nat × D)} {σ : St} {ρ : Env'}, Sl K Hf Hh σ ρ → RpB K Hf Hh us bs → Sl K Hf Hh (setV σ us) (setE ρ bs)
  | _, _, _, _, s, .nil => s
  | _, _, σ, ρ, s, .cons (a := u) (b := b) r t => by
    obtain ⟨e, r⟩ := r
    have s1 := s.set (i := u.1) r
    rw [e] at s1
    have e2 := Sl.sets s1 t
    show Sl K Hf Hh (setV (σ.set u.1 (some u.2)) _) (setE (ρ.set b.1 (some b.2)) _)
    rw [e]
    exact e2
theorem wipe_get {σ : St} {i : Nat} : ∀ {vs : List Nat}, i ∈ vs → (L2.wipe σ vs)[i]? = if i < σ.length then some none else none
  | v :: vs, h => by
    rw [L2.wipe, List.getElem?_set]
    by_cases hv : v = i
    · subst hv; simp [wipe_length]
    · have h' : i ∈ vs := by rcases List.mem_cons.mp h with e | e; exact absurd e.symm hv; exact e
      simp only [hv, if_false]
      exact wipe_get h'
theorem wipe_not {σ : St} {i : Nat} : ∀ {vs : List Nat}, i ∉ vs → (L2.wipe σ vs)[i]? = σ[i]?
  | [], _ => rfl
  | v :: vs, h => by
    rw [L2.wipe, List.getElem?_set_ne (fun e => h (by simp [e]))]
    exact wipe_not fun e => h (by simp [e])
theorem wipe_congr {σ σ' : St} {vs : List Nat} (hl : σ.length = σ'.length) (h : ∀ i, i ∉ vs → σ[i]? = σ'[i]?) : L2.wipe σ vs = L2.wipe σ' vs := by
  refine List.ext_getElem? fun i => ?_
  by_cases hi : i ∈ vs
  · rw [wipe_get hi, wipe_get hi, hl]
  · rw [wipe_not hi, wipe_not hi, h i hi]
theorem setV_length (us : List (Nat × V)) : ∀ σ : St, (setV σ us).length = σ.length := by
  induction us with
  | nil => intro σ; rfl
  | cons u us ih => intro σ; show (setV (σ.set u.1 (some u.2)) us).length = _; rw [ih]; simp
theorem setV_not (us : List (Nat × V)) : ∀ (σ : St) (i : Nat), i ∉ us.map (·.1) → (setV σ us)[i]? = σ[i]? := by
  induction us with
  | nil => intro σ i _; rfl
  | cons u us ih =>
    intro σ i h
    show (setV (σ.set u.1 (some u.2)) us)[i]? = _
    rw [ih _ _ (fun e => h (by simp [e])), List.getElem?_set_ne (fun e => h (by simp [e]))]
theorem wipe_setV {σ : St} {us : List (Nat × V)} {vs : List Nat} (h : ∀ u ∈ us, u.1 ∈ vs) : L2.wipe (setV (L2.wipe σ vs) us) vs = L2.wipe σ vs := by
  rw [wipe_congr (σ := setV (L2.wipe σ vs) us) (σ' := L2.wipe σ vs) (setV_length _ _) fun i hi => setV_not us _ i fun e => ?_]
  · refine List.ext_getElem? fun i => ?_
    by_cases hi : i ∈ vs
    · rw [wipe_get hi, wipe_get hi, wipe_length]
    · rw [wipe_not hi]
  · obtain ⟨u, hu, e⟩ := List.mem_map.mp e
    exact hi (e ▸ h u hu)
mutual
theorem bs_slots : ∀ (T : Tgt) (d : D) bs, T.bs d = some bs → ∀ b ∈ bs, b.1 ∈ T.slots
  | .nm i, d, bs, h, b, hb => by
    rw [Tgt.bs] at h; cases h
    have : b = (i, d) := by simpa using hb
    subst this; rw [Tgt.slots]; simp
  | .tup ts, d, bs, h, b, hb => by
    cases d with
    | tuple ds => rw [Tgt.bs] at h; rw [Tgt.slots]; exact bss_slots ts ds bs h b hb
    | lt ds => rw [Tgt.bs] at h; rw [Tgt.slots]; exact bss_slots ts ds bs h b hb
    | _ => simp [Tgt.bs] at h
theorem bss_slots : ∀ (ts : List Tgt) (ds : List D) bs, Tgt.bss ts ds = some bs → ∀ b ∈ bs, b.1 ∈ Tgt.slotss ts
  | [], [], bs, h, b, hb => by rw [Tgt.bss] at h; cases h; simp at hb
  | [], _ :: _, bs, h, b, hb => by simp [Tgt.bss] at h
  | _ :: _, [], bs, h, b, hb => by simp [Tgt.bss] at h
  | t :: ts, d :: ds, bs, h, b, hb => by
    simp only [Tgt.bss, Option.bind_eq_some_iff, Option.map_eq_some_iff] at h
    obtain ⟨b1, e1, b2, e2, rfl⟩ := h
    rw [Tgt.slotss]
    rcases List.mem_append.mp hb with hb | hb
    · exact List.mem_append_left _ (bs_slots t d b1 e1 b hb)
    · exact List.mem_append_right _ (bss_slots ts ds b2 e2 b hb)
end
theorem RpB.fst {K : PySem.W.Frag} {Hf Hh : Hp} : ∀ {us : List (Nat × V)} {bs : List (Nat × D)}, RpB K Hf Hh us bs → us.map (·.1) = bs.map (·.1)
  | _, _, .nil => rfl
  | _, _, .cons r t => by simp [r.1, RpB.fst t]
structure TsD (X : Cx) (xw : XW) (ifs : List Expr) (f : WT) : Prop where
  pt : PTs X ifs (LT X.K xw f)
  mo : MonoT f
def yesT : WT := fun _ K _ => K true
theorem ts_nil : TsD X xw [] yesT := ⟨⟨fun pins s σ H Q I h => by
  obtain ⟨Hf, Hh, Hx, ρ, P, S, q⟩ := h
  exact pts_nil.run pins s σ H Q I (q H Hf Hh (Tr.refl _ _) P)⟩, fun _ _ _ _ _ hk _ h => hk _ h⟩
theorem ts_one {c : Expr} {f : WT} (h : TD X xw c f) : TsD X xw [c] f := ⟨pts_one h.pt, h.mo⟩
/-- the turns of a comprehension: acc is made so far -/
def loopC (ρ : Env') (T : Tgt) (tst : WT) (elt : WE) : List D → List D → (List D → Prop) → Prop
  | [], acc, K => K acc
  | d :: ds, acc, K => match T.bs d with
    | none => False
    | some bs => tst (setE ρ bs) (fun b => if b = true then elt (setE ρ bs) (fun y => loopC ρ T tst elt ds (acc ++ [y]) K) (fun _ => False) else loopC ρ T tst elt ds acc K) (fun _ => False)
theorem loopC_mono {ρ : Env'} {T : Tgt} {tst : WT} {elt : WE} (mt : MonoT tst) (me : MonoE elt) : ∀ (ds acc : List D) (K1 K2 : List D → Prop), (∀ a, K1 a → K2 a) → loopC ρ T tst elt ds acc K1 → loopC ρ T tst elt ds acc K2
  | [], acc, K1, K2, hk, h => hk _ h
  | d :: ds, acc, K1, K2, hk, h => by
    rw [loopC] at h ⊢
    split at h
    · exact h.elim
    · rename_i bs e
      refine mt _ _ _ _ _ (fun b q => ?_) (fun _ h => h) h
      cases b with
      | true => exact me _ _ _ _ _ (fun y q => loopC_mono mt me ds _ K1 K2 hk q) (fun _ h => h) q
      | false => exact loopC_mono mt me ds _ K1 K2 hk q
def compW (vs : List Nat) (T : Tgt) (src : WA) (tst : WT) (elt : WE) : WE := fun ρ K Xc => src ρ (fun ds => loopC (wipeD ρ vs) T tst elt ds [] (fun acc => K (.list acc))) Xc
theorem mono_comp {vs : List Nat} {T : Tgt} {src : WA} {tst : WT} {elt : WE} (ms : MonoA src) (mt : MonoT tst) (me : MonoE elt) : MonoE (compW vs T src tst elt) := fun ρ K1 K2 X1 X2 hk hx h =>
  ms _ _ _ _ _ (fun ds q => loopC_mono mt me _ _ _ _ (fun a q => hk _ q) q) hx h
theorem drop_lt {ds : List D} {i : Nat} {d : D} (h : ds[i]? = some d) : ds.drop i = d :: ds.drop (i + 1) := by
  have hl : i < ds.length := by
    rcases Nat.lt_or_ge i ds.length with q | q
    · exact q
    · rw [List.getElem?_eq_none q] at h; cases h
  rw [List.drop_eq_getElem_cons hl]
  rw [List.getElem?_eq_getElem hl] at h
  cases h; rfl
/-- the comprehension's reading -/
theorem comp_imp {vs : List Nat} {T : Tgt} {src : WA} {tst : WT} {elt : WE} {g : TG} {K : PySem.W.Frag} {xw : XW} (ms : MonoA src) (mt : MonoT tst) (me : MonoE elt) (hT : ∀ i ∈ T.slots, i ∈ vs)
    (gst : ∀ v d bs σ (H Hf Hh : Hp) (Q : St → Hp → Prop), Sub Hf H → Rp K Hf Hh v d → T.bs d = some bs → (∀ us, RpB K Hf Hh us bs → Q (setV σ us) H) → g v σ H Q)
    (σ : St) (H : Hp) (Q : VK) (h : LF K xw (compW vs T src tst elt) σ H Q) : tLc (LI K xw src) g (LT K noX tst) (LE K noX elt) vs σ H Q := by
  obtain ⟨Hf, Hh, Hx, ρ, P, S, h⟩ := h
  refine ⟨Hf, Hh, Hx, ρ, P, S, ms _ _ _ _ _ (fun ds hd J H1 Hf1 Hh1 T1 P1 wk hz Dp hD => ?_) (fun c hc => hc) h⟩
  have nDx : Hx Dp = none := (P1.fresh hD).2.2
  let ρw := wipeD ρ vs
  have Sw : Sl K Hf1 Hh1 (L2.wipe σ vs) ρw := (S.mono T1).wipe vs
  let W : Nat → Nat → Hp → Prop := fun i m H => m = ds.length - i ∧ i ≤ ds.length ∧ ∃ Hf2 Hh2 av acc, Tr Hf1 Hh1 Hf2 Hh2 ∧ Pt H Hf2 Hh2 (upd Hx Dp (.lst av)) ∧ RpAll K Hf2 Hh2 av acc ∧ acc.length ≤ i ∧
    loopC ρw T tst elt (ds.drop i) acc (fun acc => Bf K Hf Hh Hx Q (.list acc))
  refine ⟨W, ⟨ds.length, by simp, Nat.zero_le _, Hf1, Hh1, [], [], Tr.refl _ _, P1.newX hD, .nil, Nat.le_refl _, by simpa using hd⟩, ?_⟩
  rintro i m H2 ⟨rfl, hi, Hf2, Hh2, av, acc, T2, P2, R2, ha, lc⟩
  obtain ⟨w1, w2⟩ := wk i H2 Hf2 Hh2 _ T2 P2
  by_cases hlt : i < ds.length
  · obtain ⟨hgo, hy⟩ := w1 hlt
    refine .inr ⟨hgo, fun H' => ∃ m', m' < ds.length - i ∧ W (i + 1) m' H', fun H' h => h, fun x H3 yl => ?_⟩
    obtain ⟨Hf3, d, T3, P3, ed, R3⟩ := hy x H3 yl
    rw [drop_lt ed, loopC] at lc
    split at lc
    · exact lc.elim
    · rename_i bs eb
      refine gst x d bs _ H3 Hf3 Hh2 _ P3.sub R3 eb fun us hu => ?_
      have hus : ∀ u ∈ us, u.1 ∈ vs := fun u hu' => by
        have : u.1 ∈ bs.map (·.1) := by rw [← RpB.fst hu]; exact List.mem_map_of_mem hu'
        obtain ⟨b, hb, e⟩ := List.mem_map.mp this
        exact e ▸ hT _ (bs_slots T d bs eb b hb)
      have S3 : Sl K Hf3 Hh2 (setV (L2.wipe σ vs) us) (setE ρw bs) := (Sw.mono (T2.trans T3)).sets hu
      refine ⟨wipe_setV hus, LT.at mt P3 S3 lc (fun b hb H4 Hf4 Hh4 T4 P4 => ?_) (fun c hc => hc.elim)⟩
      cases b with
      | true =>
        refine iteT (LE.at me P4 (S3.mono T4) hb (fun y hy v5 H5 Hf5 Hh5 T5 P5 R5 => ?_) (fun c hc => hc.elim))
        have T25 : Tr Hf2 Hh2 Hf5 Hh5 := T3.trans (T4.trans T5)
        have eD : H5 Dp = some (.lst av) := (P5.x Dp _ upd_same).1
        have lv : av.length = acc.length := R2.length
        refine ⟨av, eD, by omega, ds.length - (i + 1), by omega, rfl, hlt, Hf5, Hh5, av ++ [v5], acc ++ [y], T2.trans T25, ?_, (R2.mono T25).append (.cons R5 .nil), by simp; omega, hy⟩
        have := P5.setX (o' := .lst (av ++ [v5])) upd_same
        rw [upd_upd] at this
        exact this
      | false =>
        refine iteF ⟨ds.length - (i + 1), by omega, rfl, hlt, Hf4, Hh4, av, acc, T2.trans (T3.trans T4), P4, R2.mono (T3.trans T4), by omega, hb⟩
  · have e : i = ds.length := by omega
    subst e
    refine .inl ⟨w2 (Nat.le_refl _), ?_⟩
    rw [List.drop_length, loopC] at lc
    have lv : av.length = acc.length := R2.length
    -- the heap without the new list
    let H' : Hp := fun b => if b = Dp then none else H2 b
    have e1 : H2 Dp = some (.lst av) := (P2.x Dp _ upd_same).1
    have e2 : upd H' Dp (.lst av) = H2 := by
      funext b
      by_cases hb : b = Dp
      · subst hb; rw [upd_same, e1]
      · rw [upd_ne hb]; show (if b = Dp then none else H2 b) = _; rw [if_neg hb]
    have P' : Pt H' Hf2 Hh2 Hx := by
      have nf := (P2.x Dp _ upd_same).2
      refine ⟨fun b o q => ?_, fun b o q => ?_, fun b o q => ?_, fun b o q => ?_, fun b vs => ⟨(P2.nt b vs).1, (P1.nt b vs).2⟩, fun b vs => ⟨(P2.nb b vs).1, (P1.nb b vs).2⟩, P2.tb, P1.nx⟩
      · have hb : b ≠ Dp := fun z => by subst z; rw [nf.1] at q; cases q
        obtain ⟨z1, z2, z3⟩ := P2.f b o q
        rw [upd_ne hb] at z3
        exact ⟨by show (if b = Dp then none else H2 b) = _; rw [if_neg hb]; exact z1, z2, z3⟩
      · have hb : b ≠ Dp := fun z => by subst z; rw [nf.2] at q; cases q
        obtain ⟨z1, z2, z3⟩ := P2.h b o q
        rw [upd_ne hb] at z3
        exact ⟨by show (if b = Dp then none else H2 b) = _; rw [if_neg hb]; exact z1, z2, z3⟩
      · have hb : b ≠ Dp := fun z => by subst z; rw [nDx] at q; cases q
        obtain ⟨z1, z2, z3⟩ := P2.x b o (by rw [upd_ne hb]; exact q)
        exact ⟨by show (if b = Dp then none else H2 b) = _; rw [if_neg hb]; exact z1, z2, z3⟩
      · by_cases hb : b = Dp
        · subst hb
          have : (if b = b then none else H2 b) = some o := q
          rw [if_pos rfl] at this; cases this
        · have q : (if b = Dp then none else H2 b) = some o := q
          rw [if_neg hb] at q
          have := P2.c b o q
          rw [upd_ne hb] at this
          exact this
    have n' : H' Dp = none := by show (if Dp = Dp then none else H2 Dp) = none; rw [if_pos rfl]
    have := lc Dp (.lst av) H' Hf2 Hh2 (T1.trans T2) P' n' ⟨av, rfl, by omega, R2⟩
    rw [e2] at this
    exact this
theorem fd_lc {elt tg iter : Expr} {ifs : List Expr} {scope : Scope} {own : List (Str × Nat)} {pos : Pos} {T : Tgt} {g : TG} {src : WA} {tst : WT} {f : WE} (hc : X.calm = true) (hN : X.N.Nodup) (hi : ID X xw tg iter src) (ok : BlkOk X.N X.env.scope scope own)
    (hT : ∀ i ∈ T.slots, i ∈ own.map (·.2))
    (hg : ∀ (s : Shared) (H : Hp) (C : Addr) (cl : List (Str × Addr)) (fp : List Addr), GD (X.blk s H scope (compEnvC scope cl C X.env) fp) tg T g) (ht : ∀ (s : Shared) (H : Hp) (C : Addr) (cl : List (Str × Addr)) (fp : List Addr), TsD (X.blk s H scope (compEnvC scope cl C X.env) fp) noX ifs tst)
    (he : ∀ (s : Shared) (H : Hp) (C : Addr) (cl : List (Str × Addr)) (fp : List Addr), ED (X.blk s H scope (compEnvC scope cl C X.env) fp) noX elt f) (hs : ∀ x, foldedSetIterable iter X.env x = pure x := by intro _; rfl) :
    FD X xw (.ListComp elt [⟨tg, iter, ifs, 0⟩] scope pos) (compW (own.map (·.2)) T src tst f) := by
  refine ⟨PE.imp (pe_lc (tt := LT X.K noX tst) (te := LE X.K noX f) hc hN hi.pi ok (fun s H C cl fp => (hg s H C cl fp).pg) (fun s H C cl fp => (ht s H C cl fp).pt) (fun s H C cl fp => (he s H C cl fp).pe) hs) fun σ H Q h => ?_, ?_⟩
  · exact comp_imp hi.mo (ht X.s_0 (fun _ => none) 0 [] []).mo (he X.s_0 (fun _ => none) 0 [] []).mo hT (hg X.s_0 (fun _ => none) 0 [] []).st σ H Q h
  · exact mono_comp hi.mo (ht X.s_0 (fun _ => none) 0 [] []).mo (he X.s_0 (fun _ => none) 0 [] []).mo
end
end DL

set_option Elab.async false
set_option linter.all false
set_option maxRecDepth 100000
set_option maxHeartbeats 4000000
namespace DL
open PySem PySem.Spec PyProof.Rows L2
variable [TabsC]
/-- what a slot holds: a datum that stays; a list or dict that the frame owns alone -/
inductive SV where
  | fz (d : D) | own (d : D) | trk (ds : List D)
abbrev SEnv := List (Option SV)
/-- what is wanted behind a statement -/
structure SK where
  nx : SEnv → Prop
  rt : D → Prop
  bk : SEnv → Prop
  ct : SEnv → Prop
  xc : String → Prop
structure SK.Le (a b : SK) : Prop where
  nx : ∀ ρ, a.nx ρ → b.nx ρ
  rt : ∀ d, a.rt d → b.rt d
  bk : ∀ ρ, a.bk ρ → b.bk ρ
  ct : ∀ ρ, a.ct ρ → b.ct ρ
  xc : ∀ c, a.xc c → b.xc c
abbrev WS := SEnv → SK → Prop
def MonoSt (f : WS) : Prop := ∀ ρ k1 k2, SK.Le k1 k2 → f ρ k1 → f ρ k2
mutual
def D.flat : D → Bool
  | .list _ => false
  | .dict _ _ => false
  | .hnd _ _ => false
  | .scr _ => false
  | .tuple xs => D.flats xs
  | .lt _ => false
  | _ => true
def D.flats : List D → Bool
  | [] => true
  | x :: xs => D.flat x && D.flats xs
end
/-- the items of a list are flat -/
def D.flatIn : D → Bool
  | .list xs => D.flats xs
  | .dict _ kvs => D.flats (kvs.map (·.2))
  | _ => true
structure Ss (K : PySem.W.Frag) (HxC Hf Hh Hx : Hp) (σ : St) (ρ : SEnv) : Prop where
  len : ρ.length = σ.length
  fz : ∀ (i : Nat) (d : D), ρ[i]? = some (some (.fz d)) → ∃ v, σ[i]? = some (some v) ∧ Rp K Hf Hh v d
  own : ∀ (i : Nat) (d : D), ρ[i]? = some (some (.own d)) → ∃ a o, σ[i]? = some (some (.ref a)) ∧ Hx a = some o ∧ HxC a = none ∧ OwnR K Hf Hh o d
  trk : ∀ (i : Nat) (ds : List D), ρ[i]? = some (some (.trk ds)) → TabsC.kn = false ∧ ∃ a vs, σ[i]? = some (some (.ref a)) ∧ Hf a = some (.tup vs) ∧ vs.length ≤ sizeLine ∧ RpAll K Hf Hh vs ds
  sep : ∀ (i j : Nat) (d e : D) (a : Addr), i ≠ j → ρ[i]? = some (some (.own d)) → ρ[j]? = some (some (.own e)) → σ[i]? = some (some (.ref a)) → σ[j]? ≠ some (some (.ref a))
  sub : Sub HxC Hx
def SV.view (b : Bool) : Option SV → Option D
  | some (.fz d) => some d
  | some (.own d) => if b = true then some d else none
  | some (.trk ds) => some (.tuple ds)
  | none => none
def view (b : Bool) (ρ : SEnv) : Env' := ρ.map (SV.view b)
def Bs (K : PySem.W.Frag) (HxC Hf Hh : Hp) (N : St → Hp → Prop) (ρ : SEnv) : Prop := ∀ σ' H' Hf' Hh' Hx', Tr Hf Hh Hf' Hh' → Pt H' Hf' Hh' Hx' → Ss K HxC Hf' Hh' Hx' σ' ρ → N σ' H'
theorem Bs.tr {K : PySem.W.Frag} {HxC Hf Hh Hf' Hh' : Hp} {N : St → Hp → Prop} {ρ : SEnv} (t : Tr Hf Hh Hf' Hh') (b : Bs K HxC Hf Hh N ρ) : Bs K HxC Hf' Hh' N ρ := fun σ H' a b' c u => b σ H' a b' c (t.trans u)
def SKof (K : PySem.W.Frag) (xw : XW) (HxC Hf Hh : Hp) (Dn : Ends) : SK := ⟨Bs K HxC Hf Hh Dn.nx, Bk K Hf Hh HxC Dn.rt, Bs K HxC Hf Hh Dn.bk, Bs K HxC Hf Hh Dn.ct, Bx Hf Hh HxC xw⟩
theorem SKof.tr {K : PySem.W.Frag} {xw : XW} {HxC Hf Hh Hf' Hh' : Hp} {Dn : Ends} (t : Tr Hf Hh Hf' Hh') : SK.Le (SKof K xw HxC Hf Hh Dn) (SKof K xw HxC Hf' Hh' Dn) := ⟨fun _ h => h.tr t, fun _ h => h.tr t, fun _ h => h.tr t, fun _ h => h.tr t, fun _ h => h.tr t⟩
def LS (K : PySem.W.Frag) (xw : XW) (f : WS) : TS := fun Dn σ H => ∃ HxC Hf Hh Hx ρ, Pt H Hf Hh Hx ∧ Ss K HxC Hf Hh Hx σ ρ ∧ f ρ (SKof K xw HxC Hf Hh Dn)
structure SD (X : Cx) (xw : XW) (st : Stmt) (f : WS) : Prop where
  ps : PS X st (LS X.K xw f)
  mo : MonoSt f
structure SDs (X : Cx) (xw : XW) (sts : List Stmt) (f : WS) : Prop where
  ps : PSs X sts (LS X.K xw f)
  mo : MonoSt f
theorem LS.at {K : PySem.W.Frag} {xw : XW} {f : WS} (m : MonoSt f) {σ : St} {H HxC Hf Hh Hx : Hp} {ρ : SEnv} {Dn : Ends} {k : SK} (P : Pt H Hf Hh Hx) (S : Ss K HxC Hf Hh Hx σ ρ) (h : f ρ k) (hk : SK.Le k (SKof K xw HxC Hf Hh Dn)) : LS K xw f Dn σ H := ⟨HxC, Hf, Hh, Hx, ρ, P, S, m _ _ _ hk h⟩
section
variable {K : PySem.W.Frag} {HxC Hf Hh Hx Hf' Hh' H H' : Hp} {σ : St} {ρ : SEnv}
theorem Ss.mono (S : Ss K HxC Hf Hh Hx σ ρ) (t : Tr Hf Hh Hf' Hh') : Ss K HxC Hf' Hh' Hx σ ρ :=
  ⟨S.len, fun i d e => by obtain ⟨v, h, r⟩ := S.fz i d e; exact ⟨v, h, r.mono t⟩, fun i d e => by obtain ⟨a, o, h1, h2, h3, r⟩ := S.own i d e; exact ⟨a, o, h1, h2, h3, r.mono t⟩, fun i ds e => by obtain ⟨kn, a, vs, h1, h2, h3, r⟩ := S.trk i ds e; exact ⟨kn, a, vs, h1, t.s _ _ h2, h3, r.mono t⟩, S.sep, S.sub⟩
theorem OwnR.isO {o : HO} {d : D} (r : OwnR K Hf Hh o d) : (∃ vs, o = .lst vs) ∨ (∃ kvs, o = .dK kvs) ∨ ∃ kvs, o = .dT kvs := by
  unfold OwnR at r
  split at r
  · obtain ⟨vs, e, _⟩ := r; exact .inl ⟨vs, e⟩
  · obtain ⟨kvs, e, _⟩ := r; exact .inr (.inl ⟨kvs, e⟩)
  · obtain ⟨kvs, e, _⟩ := r; exact .inr (.inr ⟨kvs, e⟩)
  · exact r.elim
/-- the owned addresses -/
def OwnA (σ : St) (ρ : SEnv) (a : Addr) : Prop := ∃ (i : Nat) (d : D), ρ[i]? = some (some (.own d)) ∧ σ[i]? = some (some (.ref a))
mutual
theorem Rp.flat {A : Addr → Prop} (hA : ∀ a, A a → ∀ o, Hf a = some o → (∃ vs, o = .lst vs) ∨ (∃ kvs, o = .dK kvs) ∨ ∃ kvs, o = .dT kvs) (hs : ∀ a o, ¬ A a → Hf a = some o → Hf' a = some o) :
    ∀ {v : V} {d : D}, Rp K Hf Hh v d → d.flat = true → Rp K Hf' Hh v d
  | _, _, .non, _ => .non
  | _, _, .bool b, _ => .bool b
  | _, _, .int i, _ => .int i
  | _, _, .str x, _ => .str x
  | _, _, .list h z r, q => by simp [D.flat] at q
  | _, _, .tuple h z r k, q => by
    refine .tuple ?_ z (RpAll.flat hA hs r (by rw [D.flat] at q; exact q)) fun e => (k e).imp (fun ⟨o, us, e, p⟩ => ⟨o, us, hs _ _ (fun hh => by rcases hA _ hh _ e with ⟨_, e⟩ | ⟨_, e⟩ | ⟨_, e⟩ <;> cases e) e, p⟩) id
    rcases h with (h | ⟨o, h⟩) | h
    · refine .inl (.inl (hs _ _ (fun hh => ?_) h))
      rcases hA _ hh _ h with ⟨_, e⟩ | ⟨_, e⟩ | ⟨_, e⟩ <;> cases e
    · refine .inl (.inr ⟨o, hs _ _ (fun hh => ?_) h⟩)
      rcases hA _ hh _ h with ⟨_, e⟩ | ⟨_, e⟩ | ⟨_, e⟩ <;> cases e
    · exact .inr h
  | _, _, .dK h z r, q => by simp [D.flat] at q
  | _, _, .dT h z r, q => by simp [D.flat] at q
  | _, _, .hnd h k, q => by simp [D.flat] at q
  | _, _, .scr h k, q => by simp [D.flat] at q
  | _, _, .raw v, _ => .raw v
  | _, _, .lt h z r, q => by simp [D.flat] at q
theorem RpAll.flat {A : Addr → Prop} (hA : ∀ a, A a → ∀ o, Hf a = some o → (∃ vs, o = .lst vs) ∨ (∃ kvs, o = .dK kvs) ∨ ∃ kvs, o = .dT kvs) (hs : ∀ a o, ¬ A a → Hf a = some o → Hf' a = some o) :
    ∀ {vs : List V} {ds : List D}, RpAll K Hf Hh vs ds → D.flats ds = true → RpAll K Hf' Hh vs ds
  | _, _, .nil, _ => .nil
  | _, _, .cons a b, q => by
    rw [D.flats, Bool.and_eq_true] at q
    exact .cons (Rp.flat hA hs a q.1) (RpAll.flat hA hs b q.2)
end
theorem OwnR.flat {A : Addr → Prop} (hA : ∀ a, A a → ∀ o, Hf a = some o → (∃ vs, o = .lst vs) ∨ (∃ kvs, o = .dK kvs) ∨ ∃ kvs, o = .dT kvs) (hs : ∀ a o, ¬ A a → Hf a = some o → Hf' a = some o)
    {o : HO} {d : D} (r : OwnR K Hf Hh o d) (q : d.flatIn = true) : OwnR K Hf' Hh o d := by
  unfold OwnR at r ⊢
  split at r
  · obtain ⟨vs, e, z, r⟩ := r; exact ⟨vs, e, z, r.flat hA hs q⟩
  · obtain ⟨kvs, e, z, r⟩ := r; exact ⟨kvs, e, z, r.flat hA hs q⟩
  · obtain ⟨kvs, e, z, r⟩ := r; exact ⟨kvs, e, z, r.flat hA hs q⟩
  · exact r.elim
/-- what an expression is entered with, and how one comes back -/
structure Entry (K : PySem.W.Frag) (HxC Hf Hh Hx : Hp) (σ : St) (ρ : SEnv) (b : Bool) (H Hfb Hxb : Hp) : Prop where
  pt : Pt H Hfb Hh Hxb
  sl : Sl K Hfb Hh σ (view b ρ)
  sub : Sub HxC Hxb
  back : ∀ H' Hf' Hh', Tr Hfb Hh Hf' Hh' → Pt H' Hf' Hh' Hxb → ∃ Hf2, Tr Hf Hh Hf2 Hh' ∧ Pt H' Hf2 Hh' Hx ∧ Ss K HxC Hf2 Hh' Hx σ ρ ∧ (∀ v d, (b = true → d.flat = true) → Rp K Hf' Hh' v d → Rp K Hf2 Hh' v d) ∧
    (∀ o d, (b = true → d.flatIn = true) → OwnR K Hf' Hh' o d → OwnR K Hf2 Hh' o d) ∧ (b = false → Hf2 = Hf')
  tr : Tr Hf Hh Hfb Hh
theorem view_at {b : Bool} {i : Nat} {d : D} (h : (view b ρ)[i]? = some (some d)) : ρ[i]? = some (some (.fz d)) ∨ (b = true ∧ ρ[i]? = some (some (.own d))) ∨ ∃ ds, d = .tuple ds ∧ ρ[i]? = some (some (.trk ds)) := by
  unfold view at h
  rw [List.getElem?_map] at h
  cases e : ρ[i]? with
  | none => rw [e] at h; cases h
  | some x =>
    rw [e] at h
    cases x with
    | none => simp [SV.view] at h
    | some y =>
      cases y with
      | fz d' => simp [SV.view] at h; subst h; exact .inl rfl
      | own d' =>
        cases b with
        | true => simp [SV.view] at h; subst h; exact .inr (.inl ⟨rfl, rfl⟩)
        | false => simp [SV.view] at h
      | trk ds => simp [SV.view] at h; subst h; exact .inr (.inr ⟨ds, rfl, rfl⟩)
theorem entry (b : Bool) (P : Pt H Hf Hh Hx) (S : Ss K HxC Hf Hh Hx σ ρ) : ∃ Hfb Hxb, Entry K HxC Hf Hh Hx σ ρ b H Hfb Hxb := by
  cases b with
  | false =>
    refine ⟨Hf, Hx, P, ⟨by unfold view; rw [List.length_map]; exact S.len, fun i d e => ?_⟩, S.sub, fun H' Hf' Hh' T P' => ⟨Hf', T, P', S.mono T, fun v d _ r => r, fun o d _ r => r, fun _ => rfl⟩, Tr.refl _ _⟩
    rcases view_at e with h | ⟨h, _⟩ | ⟨ds, e, h⟩
    · exact S.fz i d h
    · cases h
    · subst e
      obtain ⟨kn, a, vs, h1, h2, h3, r⟩ := S.trk i ds h
      exact ⟨_, h1, .tuple (SqT.of h2) h3 r fun e => by rw [kn] at e; cases e⟩
  | true =>
    let A := OwnA σ ρ
    have hA : ∀ a, A a → ∃ o, Hx a = some o := fun a ⟨i, d, e1, e2⟩ => by
      obtain ⟨a', o, h1, h2, _⟩ := S.own i d e1
      rw [e2] at h1; cases h1; exact ⟨o, h2⟩
    have hAo : ∀ a, A a → ∀ o, Hx a = some o → (∃ vs, o = .lst vs) ∨ (∃ kvs, o = .dK kvs) ∨ ∃ kvs, o = .dT kvs := fun a ⟨i, d, e1, e2⟩ o ho => by
      obtain ⟨a', o', h1, h2, _, r⟩ := S.own i d e1
      rw [e2] at h1; cases h1
      rw [ho] at h2; cases h2
      exact r.isO
    have hAC : ∀ a, A a → HxC a = none := fun a ⟨i, d, e1, e2⟩ => by
      obtain ⟨a', o', h1, h2, h3, r⟩ := S.own i d e1
      rw [e2] at h1; cases h1; exact h3
    have s0 : Sub Hf (mixF A Hf Hx) := fun a o e => by
      have : ¬ A a := fun z => by obtain ⟨u, hu⟩ := hA a z; rw [(P.f a o e).2.2] at hu; cases hu
      rw [mixF_out this]; exact e
    have Pb := P.mix (A := A) hA
    refine ⟨mixF A Hf Hx, cutX A Hx, Pb, ⟨by unfold view; rw [List.length_map]; exact S.len, fun i d e => ?_⟩, fun a o e => ?_, fun H' Hf' Hh' T P' => ?_, Tr.sub s0⟩
    · rcases view_at e with h | ⟨_, h⟩ | ⟨ds, e, h⟩
      · obtain ⟨v, h1, r⟩ := S.fz i d h
        exact ⟨v, h1, r.mono (Tr.sub s0)⟩
      · obtain ⟨a, o, h1, h2, h3, r⟩ := S.own i d h
        have hAa : A a := ⟨i, d, h, h1⟩
        exact ⟨.ref a, h1, (r.mono (Tr.sub s0)).rp (by rw [mixF_in hAa]; exact h2)⟩
      · subst e
        obtain ⟨kn, a, vs, h1, h2, h3, r⟩ := S.trk i ds h
        exact ⟨_, h1, .tuple (SqT.of (s0 _ _ h2)) h3 (r.mono (Tr.sub s0)) fun e => by rw [kn] at e; cases e⟩
    · have : ¬ A a := fun z => by rw [hAC a z] at e; cases e
      rw [cutX_out this]; exact S.sub a o e
    · -- back
      let Hf2 : Hp := cutX A Hf'
      have f_in : ∀ a, A a → Hf2 a = none := fun a h => cutX_in h
      have f_out : ∀ a, ¬ A a → Hf2 a = Hf' a := fun a h => cutX_out h
      have atA : ∀ a, A a → ∀ o, Hx a = some o → Hf' a = some o := fun a h o e => T.s _ _ (by rw [mixF_in h]; exact e)
      have t2 : Tr Hf Hh Hf2 Hh' := by
        refine ⟨fun a o e => ?_, fun a c o e k => ?_⟩
        · have : ¬ A a := fun z => by obtain ⟨u, hu⟩ := hA a z; rw [(P.f a o e).2.2] at hu; cases hu
          rw [f_out a this]; exact T.s _ _ (s0 _ _ e)
        · obtain ⟨o', e', k'⟩ := T.h a c o e (k.mono s0)
          obtain ⟨cs, i, l, m, n, _, hc, _⟩ := k
          have nc : ¬ A c := fun z => by obtain ⟨u, hu⟩ := hA c z; rw [(P.f c _ hc).2.2] at hu; cases hu
          obtain ⟨cs', i', l', m', n', e1, hc', r⟩ := k'
          exact ⟨o', e', cs', i', l', m', n', e1, by rw [f_out c nc]; exact hc', r⟩
      have p2 : Pt H' Hf2 Hh' Hx := by
        refine ⟨fun a o e => ?_, fun a o e => ?_, fun a o e => ?_, fun a o e => ?_, fun b vs => ⟨(P'.nt b vs).1, (P.nt b vs).2⟩, fun b vs => ⟨fun e => ?_, (P.nb b vs).2⟩, fun q hq => ?_, P.nx⟩
        · have : ¬ A a := fun z => by rw [f_in a z] at e; cases e
          rw [f_out a this] at e
          obtain ⟨z1, z2, z3⟩ := P'.f a o e
          rw [cutX_out this] at z3
          exact ⟨z1, z2, z3⟩
        · obtain ⟨z1, z2, z3⟩ := P'.h a o e
          by_cases h : A a
          · obtain ⟨u, hu⟩ := hA a h
            rw [atA a h u hu] at z2; cases z2
          · rw [f_out a h]; rw [cutX_out h] at z3; exact ⟨z1, z2, z3⟩
        · by_cases h : A a
          · have e1 := atA a h o e
            obtain ⟨z1, z2, _⟩ := P'.f a o e1
            exact ⟨z1, f_in a h, z2⟩
          · rw [f_out a h]; exact P'.x a o (by rw [cutX_out h]; exact e)
        · by_cases h : A a
          · obtain ⟨u, hu⟩ := hA a h
            have := (P'.f a u (atA a h u hu)).1
            rw [e] at this; cases this
            exact .inr (.inr hu)
          · rw [f_out a h]
            have := P'.c a o e
            rw [cutX_out h] at this
            exact this
        · by_cases h : A b
          · rw [f_in b h] at e; cases e
          · rw [f_out b h] at e; exact (P'.nb b vs).1 e
        · obtain ⟨ps, a1, a2, a3⟩ := P'.tb q hq
          refine ⟨ps, a1, a2, fun pos cv h => ?_⟩
          obtain ⟨c, e1, e2⟩ := a3 pos cv h
          have nc : ¬ A c := fun z => by
            obtain ⟨u, hu⟩ := hA c z
            rw [atA c z u hu] at e2
            have := Option.some.inj e2
            rcases hAo c z u hu with ⟨_, w⟩ | ⟨_, w⟩ | ⟨_, w⟩ <;> (rw [w] at this; unfold LamX.CodeO at this; cases this)
          exact ⟨c, e1, by rw [f_out c nc]; exact e2⟩
      have hA' : ∀ a, A a → ∀ o, Hf' a = some o → (∃ vs, o = .lst vs) ∨ (∃ kvs, o = .dK kvs) ∨ ∃ kvs, o = .dT kvs := fun a h o e => by
        obtain ⟨u, hu⟩ := hA a h
        have := atA a h u hu
        rw [e] at this; cases this
        exact hAo a h _ hu
      exact ⟨Hf2, t2, p2, S.mono t2, fun v d q r => r.flat hA' (fun a o h e => by rw [f_out a h]; exact e) (q rfl), fun o d q r => r.flat hA' (fun a o h e => by rw [f_out a h]; exact e) (q rfl), fun h => by cases h⟩
/-- all that the frame owns is frozen: a def's end -/
theorem collapse {Hxb : Hp} (P : Pt H Hf Hh Hxb) (s : Sub HxC Hxb) : ∃ Hf3, Sub Hf Hf3 ∧ Pt H Hf3 Hh HxC := by
  let A : Addr → Prop := fun a => (∃ o, Hxb a = some o) ∧ HxC a = none
  have e : cutX A Hxb = HxC := by
    funext a
    by_cases h : A a
    · rw [cutX_in h]; exact h.2.symm
    · rw [cutX_out h]
      cases q : HxC a with
      | some o => exact s a o q
      | none =>
        cases q2 : Hxb a with
        | none => rfl
        | some o => exact absurd ⟨⟨o, q2⟩, q⟩ h
  have p := P.mix (A := A) fun a h => h.1
  rw [e] at p
  refine ⟨mixF A Hf Hxb, fun a o h => ?_, p⟩
  have : ¬ A a := fun z => by obtain ⟨⟨u, hu⟩, _⟩ := z; rw [(P.f a o h).2.2] at hu; cases hu
  rw [mixF_out this]; exact h
end
end DL

set_option Elab.async false
set_option linter.all false
set_option maxRecDepth 100000
set_option maxHeartbeats 4000000
namespace DL
open PySem PySem.Spec PyProof.Rows L2
variable [TabsC]
section
variable {K : PySem.W.Frag} {HxC Hf Hh Hx H : Hp} {σ : St} {ρ : SEnv} {xw : XW}
theorem stE {f : WE} (m : MonoE f) (b : Bool) {Q : VK} {K1 : D → Prop} {X1 : String → Prop} (P : Pt H Hf Hh Hx) (S : Ss K HxC Hf Hh Hx σ ρ) (h : f (view b ρ) K1 X1)
    (hk : ∀ d, K1 d → ∀ v H' Hf2 Hh', Tr Hf Hh Hf2 Hh' → Pt H' Hf2 Hh' Hx → Ss K HxC Hf2 Hh' Hx σ ρ → ((b = true → d.flat = true) → Rp K Hf2 Hh' v d) → Q v H') (hx : ∀ c, X1 c → Bx Hf Hh HxC xw c) : LE K xw f σ H Q := by
  obtain ⟨Hfb, Hxb, E⟩ := entry b P S
  refine LE.at m E.pt E.sl h (fun d hd v H' Hf' Hh' T P' R' => ?_) (fun c hc H' Hf' Hh' T P' => ?_)
  · obtain ⟨Hf2, t2, p2, s2, r2, _⟩ := E.back H' Hf' Hh' T P'
    exact hk d hd v H' Hf2 Hh' t2 p2 s2 fun q => r2 v d q R'
  · obtain ⟨Hf3, s3, p3⟩ := collapse P' E.sub
    exact hx c hc H' Hf3 Hh' (E.tr.trans (T.trans (Tr.sub s3))) p3
theorem stT {f : WT} (m : MonoT f) (b : Bool) {Q : Bool → Hp → Prop} {K1 : Bool → Prop} {X1 : String → Prop} (P : Pt H Hf Hh Hx) (S : Ss K HxC Hf Hh Hx σ ρ) (h : f (view b ρ) K1 X1)
    (hk : ∀ d, K1 d → ∀ H' Hf2 Hh', Tr Hf Hh Hf2 Hh' → Pt H' Hf2 Hh' Hx → Ss K HxC Hf2 Hh' Hx σ ρ → Q d H') (hx : ∀ c, X1 c → Bx Hf Hh HxC xw c) : LT K xw f σ H Q := by
  obtain ⟨Hfb, Hxb, E⟩ := entry b P S
  refine LT.at m E.pt E.sl h (fun d hd H' Hf' Hh' T P' => ?_) (fun c hc H' Hf' Hh' T P' => ?_)
  · obtain ⟨Hf2, t2, p2, s2, _⟩ := E.back H' Hf' Hh' T P'
    exact hk d hd H' Hf2 Hh' t2 p2 s2
  · obtain ⟨Hf3, s3, p3⟩ := collapse P' E.sub
    exact hx c hc H' Hf3 Hh' (E.tr.trans (T.trans (Tr.sub s3))) p3
theorem stF {f : WE} (m : MonoE f) (b : Bool) {Q : VK} {K1 : D → Prop} {X1 : String → Prop} (P : Pt H Hf Hh Hx) (S : Ss K HxC Hf Hh Hx σ ρ) (h : f (view b ρ) K1 X1)
    (hk : ∀ d, K1 d → ∀ p o H' Hf2 Hh', Tr Hf Hh Hf2 Hh' → Pt H' Hf2 Hh' Hx → H' p = none → Ss K HxC Hf2 Hh' Hx σ ρ → ((b = true → d.flatIn = true) → OwnR K Hf2 Hh' o d) → Q (.ref p) (upd H' p o)) (hx : ∀ c, X1 c → Bx Hf Hh HxC xw c) : LF K xw f σ H Q := by
  obtain ⟨Hfb, Hxb, E⟩ := entry b P S
  refine ⟨Hfb, Hh, Hxb, view b ρ, E.pt, E.sl, m _ _ _ _ _ (fun d hd p o H' Hf' Hh' T P' hp R' => ?_) (fun c hc H' Hf' Hh' T P' => ?_) h⟩
  · obtain ⟨Hf2, t2, p2, s2, _, r2, _⟩ := E.back H' Hf' Hh' T P'
    exact hk d hd p o H' Hf2 Hh' t2 p2 hp s2 fun q => r2 o d q R'
  · obtain ⟨Hf3, s3, p3⟩ := collapse P' E.sub
    exact hx c hc H' Hf3 Hh' (E.tr.trans (T.trans (Tr.sub s3))) p3
theorem stR {f : WE} (m : MonoE f) {Q : VK} {K1 : D → Prop} {X1 : String → Prop} (P : Pt H Hf Hh Hx) (S : Ss K HxC Hf Hh Hx σ ρ) (h : f (view true ρ) K1 X1)
    (hk : ∀ d, K1 d → Bk K Hf Hh HxC Q d) (hx : ∀ c, X1 c → Bx Hf Hh HxC xw c) : LE K xw f σ H Q := by
  obtain ⟨Hfb, Hxb, E⟩ := entry true P S
  refine LE.at m E.pt E.sl h (fun d hd v H' Hf' Hh' T P' R' => ?_) (fun c hc H' Hf' Hh' T P' => ?_)
  · obtain ⟨Hf3, s3, p3⟩ := collapse P' E.sub
    exact hk d hd v H' Hf3 Hh' (E.tr.trans (T.trans (Tr.sub s3))) p3 (R'.mono (Tr.sub s3))
  · obtain ⟨Hf3, s3, p3⟩ := collapse P' E.sub
    exact hx c hc H' Hf3 Hh' (E.tr.trans (T.trans (Tr.sub s3))) p3
theorem all_of {b : Bool} {Hf' Hf2 Hh' : Hp} (r2 : ∀ v d, (b = true → d.flat = true) → Rp K Hf' Hh' v d → Rp K Hf2 Hh' v d) : ∀ {vs : List V} {ds : List D}, RpAll K Hf' Hh' vs ds → (b = true → D.flats ds = true) → RpAll K Hf2 Hh' vs ds
  | _, _, .nil, _ => .nil
  | _, _, .cons a r, q => .cons (r2 _ _ (fun e => by have := q e; rw [D.flats, Bool.and_eq_true] at this; exact this.1) a) (all_of r2 r fun e => by have := q e; rw [D.flats, Bool.and_eq_true] at this; exact this.2)
theorem stA {f : WA} (m : MonoA f) (b : Bool) {Q : List V → Hp → Prop} {K1 : List D → Prop} {X1 : String → Prop} (P : Pt H Hf Hh Hx) (S : Ss K HxC Hf Hh Hx σ ρ) (h : f (view b ρ) K1 X1)
    (hk : ∀ d, K1 d → ∀ v H' Hf2 Hh', Tr Hf Hh Hf2 Hh' → Pt H' Hf2 Hh' Hx → Ss K HxC Hf2 Hh' Hx σ ρ → ((b = true → D.flats d = true) → RpAll K Hf2 Hh' v d) → Q v H') (hx : ∀ c, X1 c → Bx Hf Hh HxC xw c) : LA K xw f σ H Q := by
  obtain ⟨Hfb, Hxb, E⟩ := entry b P S
  refine LA.at m E.pt E.sl h (fun d hd v H' Hf' Hh' T P' R' => ?_) (fun c hc H' Hf' Hh' T P' => ?_)
  · obtain ⟨Hf2, t2, p2, s2, r2, _⟩ := E.back H' Hf' Hh' T P'
    exact hk d hd v H' Hf2 Hh' t2 p2 s2 fun q => all_of r2 R' q
  · obtain ⟨Hf3, s3, p3⟩ := collapse P' E.sub
    exact hx c hc H' Hf3 Hh' (E.tr.trans (T.trans (Tr.sub s3))) p3
/-- a slot holds a new datum -/
theorem Ss.put (S : Ss K HxC Hf Hh Hx σ ρ) {i : Nat} {v : V} {d : D} (r : Rp K Hf Hh v d) : Ss K HxC Hf Hh Hx (σ.set i (some v)) (ρ.set i (some (.fz d))) := by
  have other : ∀ {j : Nat} {x : Option SV}, j ≠ i → (ρ.set i (some (.fz d)))[j]? = some x → ρ[j]? = some x := fun h e => by rw [List.getElem?_set_ne (Ne.symm h)] at e; exact e
  have same : ∀ {x : Option SV}, (ρ.set i (some (.fz d)))[i]? = some x → x = some (.fz d) ∧ i < ρ.length := fun {x} e => by
    rw [List.getElem?_set] at e
    simp only [if_true] at e
    split at e
    · rename_i h; exact ⟨(Option.some.inj e).symm, h⟩
    · cases e
  refine ⟨by simpa using S.len, fun j e h => ?_, fun j e h => ?_, fun j e h => ?_, fun j l e e' a hjl h1 h2 h3 => ?_, S.sub⟩
  · by_cases hj : j = i
    · subst hj
      obtain ⟨q, hl⟩ := same h
      cases q
      exact ⟨v, by rw [List.getElem?_set_self (by rw [← S.len]; exact hl)], r⟩
    · rw [List.getElem?_set_ne (Ne.symm hj)]
      exact S.fz j e (other hj h)
  · by_cases hj : j = i
    · subst hj; cases (same h).1
    · rw [List.getElem?_set_ne (Ne.symm hj)]
      exact S.own j e (other hj h)
  · by_cases hj : j = i
    · subst hj; cases (same h).1
    · rw [List.getElem?_set_ne (Ne.symm hj)]
      exact S.trk j e (other hj h)
  · have hj : j ≠ i := fun z => by subst z; cases (same h1).1
    have hl : l ≠ i := fun z => by subst z; cases (same h2).1
    rw [List.getElem?_set_ne (Ne.symm hj)] at h3
    rw [List.getElem?_set_ne (Ne.symm hl)]
    exact S.sep j l e e' a hjl (other hj h1) (other hl h2) h3
theorem Ss.puts : ∀ {us : List (Nat × V)} {bs : List (Nat × D)} {σ : St} {ρ : SEnv}, Ss K HxC Hf Hh Hx σ ρ → RpB K Hf Hh us bs → Ss K HxC Hf Hh Hx (setV σ us) (setE ρ (bs.map fun b => (b.1, SV.fz b.2)))
  | _, _, _, _, s, .nil => s
  | _, _, σ, ρ, s, .cons (a := u) (b := b) r t => by
    obtain ⟨e, r⟩ := r
    have s1 := s.put (i := u.1) r
    show Ss K HxC Hf Hh Hx (setV (σ.set u.1 (some u.2)) _) (setE (ρ.set b.1 (some (.fz b.2))) _)
    rw [← e]
    exact Ss.puts s1 t
/-- a slot owns a new object -/
theorem Ss.putOwn (S : Ss K HxC Hf Hh Hx σ ρ) (P : Pt H Hf Hh Hx) {i : Nat} {p : Addr} {o : HO} {d : D} (hp : H p = none) (r : OwnR K Hf Hh o d) : Ss K HxC Hf Hh (upd Hx p o) (σ.set i (some (.ref p))) (ρ.set i (some (.own d))) := by
  have nx : Hx p = none := (P.fresh hp).2.2
  have nC : HxC p = none := by
    cases e : HxC p with
    | none => rfl
    | some u => have := S.sub _ _ e; rw [nx] at this; cases this
  have other : ∀ {j : Nat} {x : Option SV}, j ≠ i → (ρ.set i (some (.own d)))[j]? = some x → ρ[j]? = some x := fun h e => by rw [List.getElem?_set_ne (Ne.symm h)] at e; exact e
  have same : ∀ {x : Option SV}, (ρ.set i (some (.own d)))[i]? = some x → x = some (.own d) ∧ i < ρ.length := fun {x} e => by
    rw [List.getElem?_set] at e
    simp only [if_true] at e
    split at e
    · rename_i h; exact ⟨(Option.some.inj e).symm, h⟩
    · cases e
  refine ⟨by simpa using S.len, fun j e h => ?_, fun j e h => ?_, fun j e h => ?_, fun j l e e' a hjl h1 h2 h3 => ?_, fun a u e => ?_⟩
  · by_cases hj : j = i
    · subst hj; cases (same h).1
    · rw [List.getElem?_set_ne (Ne.symm hj)]
      exact S.fz j e (other hj h)
  · by_cases hj : j = i
    · subst hj
      obtain ⟨q, hl⟩ := same h
      cases q
      exact ⟨p, o, by rw [List.getElem?_set_self (by rw [← S.len]; exact hl)], upd_same, nC, r⟩
    · rw [List.getElem?_set_ne (Ne.symm hj)]
      obtain ⟨a, u, h1, h2, h3, h4⟩ := S.own j e (other hj h)
      exact ⟨a, u, h1, by rw [upd_ne (ne_of_none h2 nx)]; exact h2, h3, h4⟩
  · by_cases hj : j = i
    · subst hj; cases (same h).1
    · rw [List.getElem?_set_ne (Ne.symm hj)]
      exact S.trk j e (other hj h)
  · by_cases hj : j = i
    · subst hj
      have hl : l ≠ j := Ne.symm hjl
      rw [List.getElem?_set_ne (Ne.symm hl)]
      obtain ⟨_, hlt⟩ := same h1
      rw [List.getElem?_set_self (by rw [← S.len]; exact hlt)] at h3
      cases h3
      obtain ⟨a, u, z1, z2, _⟩ := S.own l e' (other hl h2)
      rw [z1]
      intro q
      cases q
      rw [nx] at z2; cases z2
    · rw [List.getElem?_set_ne (Ne.symm hj)] at h3
      by_cases hl : l = i
      · subst hl
        obtain ⟨_, hlt⟩ := same h2
        rw [List.getElem?_set_self (by rw [← S.len]; exact hlt)]
        intro q
        cases q
        obtain ⟨a, u, z1, z2, _⟩ := S.own j e (other hj h1)
        rw [h3] at z1; cases z1
        rw [nx] at z2; cases z2
      · rw [List.getElem?_set_ne (Ne.symm hl)]
        exact S.sep j l e e' a hjl (other hj h1) (other hl h2) h3
  · rw [upd_ne (ne_of_none e nC)]; exact S.sub a u e
/-- the owned object of a slot is changed -/
theorem Ss.mut (S : Ss K HxC Hf Hh Hx σ ρ) {i : Nat} {a : Addr} {o : HO} {d0 d : D} (h0 : ρ[i]? = some (some (.own d0))) (h1 : σ[i]? = some (some (.ref a))) (hC : HxC a = none) (r : OwnR K Hf Hh o d) : Ss K HxC Hf Hh (upd Hx a o) σ (ρ.set i (some (.own d))) := by
  have other : ∀ {j : Nat} {x : Option SV}, j ≠ i → (ρ.set i (some (.own d)))[j]? = some x → ρ[j]? = some x := fun h e => by rw [List.getElem?_set_ne (Ne.symm h)] at e; exact e
  have hlt : i < ρ.length := by
    rcases Nat.lt_or_ge i ρ.length with q | q
    · exact q
    · rw [List.getElem?_eq_none q] at h0; cases h0
  have same : (ρ.set i (some (.own d)))[i]? = some (some (.own d)) := by rw [List.getElem?_set_self hlt]
  refine ⟨by simpa using S.len, fun j e h => ?_, fun j e h => ?_, fun j e h => ?_, fun j l e e' b hjl g1 g2 g3 => ?_, fun b u e => ?_⟩
  · have hj : j ≠ i := fun z => by subst z; rw [same] at h; cases h
    exact S.fz j e (other hj h)
  · by_cases hj : j = i
    · subst hj
      rw [same] at h; cases h
      exact ⟨a, o, h1, upd_same, hC, r⟩
    · obtain ⟨b, u, z1, z2, z3, z4⟩ := S.own j e (other hj h)
      have hb : b ≠ a := fun z => by subst z; exact S.sep i j d0 e b (Ne.symm hj) h0 (other hj h) h1 z1
      exact ⟨b, u, z1, by rw [upd_ne hb]; exact z2, z3, z4⟩
  · have hj : j ≠ i := fun z => by subst z; rw [same] at h; cases h
    exact S.trk j e (other hj h)
  · have w1 : ∀ {j : Nat} {e : D}, (ρ.set i (some (.own d)))[j]? = some (some (.own e)) → ∃ e2, ρ[j]? = some (some (.own e2)) := fun {j e} h => by
      by_cases hj : j = i
      · subst hj; exact ⟨d0, h0⟩
      · exact ⟨e, other hj h⟩
    obtain ⟨e1, k1⟩ := w1 g1
    obtain ⟨e2, k2⟩ := w1 g2
    exact S.sep j l e1 e2 b hjl k1 k2 g3
  · have hb : b ≠ a := fun z => by subst z; rw [hC] at e; cases e
    rw [upd_ne hb]; exact S.sub b u e
end

section
variable {X : Cx} {xw : XW}
def nextW : WS := fun ρ k => k.nx ρ
def seqW (f g : WS) : WS := fun ρ k => f ρ { k with nx := fun ρ' => g ρ' k }
theorem SK.Le.refl (k : SK) : SK.Le k k := ⟨fun _ h => h, fun _ h => h, fun _ h => h, fun _ h => h, fun _ h => h⟩
theorem SK.Le.trans {a b c : SK} (x : SK.Le a b) (y : SK.Le b c) : SK.Le a c := ⟨fun _ h => y.nx _ (x.nx _ h), fun _ h => y.rt _ (x.rt _ h), fun _ h => y.bk _ (x.bk _ h), fun _ h => y.ct _ (x.ct _ h), fun _ h => y.xc _ (x.xc _ h)⟩
theorem mono_next : MonoSt nextW := fun ρ _ _ l h => l.nx _ h
theorem mono_seq {f g : WS} (mf : MonoSt f) (mg : MonoSt g) : MonoSt (seqW f g) := fun ρ k1 k2 l h => mf ρ { k1 with nx := fun ρ' => g ρ' k1 } _ ⟨fun ρ' q => mg _ _ _ l q, l.rt, l.bk, l.ct, l.xc⟩ h
theorem sds_nil : SDs X xw [] nextW := ⟨PSs.imp pss_nil fun Dn σ H ⟨HxC, Hf, Hh, Hx, ρ, P, S, h⟩ => h σ H Hf Hh Hx (Tr.refl _ _) P S, mono_next⟩
theorem sds_cons {st : Stmt} {rest : List Stmt} {f g : WS} (h1 : SD X xw st f) (h2 : SDs X xw rest g) : SDs X xw (st :: rest) (seqW f g) := by
  refine ⟨PSs.imp (pss_cons h1.ps h2.ps) fun Dn σ H ⟨HxC, Hf, Hh, Hx, ρ, P, S, h⟩ => ?_, mono_seq h1.mo h2.mo⟩
  refine LS.at h1.mo P S h ⟨fun ρ' q σ' H' Hf' Hh' Hx' T P' S' => ?_, fun _ q => q, fun _ q => q, fun _ q => q, fun _ q => q⟩
  exact LS.at h2.mo P' S' q (SKof.tr T)
theorem sds_one {st : Stmt} {f : WS} (h : SD X xw st f) : SDs X xw [st] f := ⟨PSs.imp (pss_one h.ps) fun _ _ _ h => h, h.mo⟩
theorem sd_pass {pos : Pos} : SD X xw (.Pass pos) nextW := ⟨PS.imp ps_pass fun Dn σ H ⟨HxC, Hf, Hh, Hx, ρ, P, S, h⟩ => h σ H Hf Hh Hx (Tr.refl _ _) P S, mono_next⟩
def breakW : WS := fun ρ k => k.bk ρ
def contW : WS := fun ρ k => k.ct ρ
theorem sd_break {pos : Pos} : SD X xw (.Break pos) breakW := ⟨PS.imp ps_break fun Dn σ H ⟨HxC, Hf, Hh, Hx, ρ, P, S, h⟩ => h σ H Hf Hh Hx (Tr.refl _ _) P S, fun ρ _ _ l h => l.bk _ h⟩
theorem sd_cont {pos : Pos} : SD X xw (.Continue pos) contW := ⟨PS.imp ps_continue fun Dn σ H ⟨HxC, Hf, Hh, Hx, ρ, P, S, h⟩ => h σ H Hf Hh Hx (Tr.refl _ _) P S, fun ρ _ _ l h => l.ct _ h⟩
theorem sd_doc {x j pos pos'} : SD X xw (.Expr (.Constant (.str x) j pos) pos') nextW := ⟨PS.imp ps_doc fun Dn σ H ⟨HxC, Hf, Hh, Hx, ρ, P, S, h⟩ => h σ H Hf Hh Hx (Tr.refl _ _) P S, mono_next⟩
def exprW (b : Bool) (f : WE) : WS := fun ρ k => f (view b ρ) (fun _ => k.nx ρ) k.xc
theorem sd_expr {e : Expr} {f : WE} {pos : Pos} (b : Bool) (h : ED X xw e f) (hs : swapsWith e none pos.line X.env = pure false := by rfl) : SD X xw (.Expr e pos) (exprW b f) := by
  refine ⟨PS.imp (ps_expr h.pe hs) fun Dn σ H ⟨HxC, Hf, Hh, Hx, ρ, P, S, q⟩ => ?_, fun ρ k1 k2 l q => h.mo _ _ _ _ _ (fun d q => l.nx _ q) (fun c q => l.xc _ q) q⟩
  exact stE h.mo b P S q (fun d hd v H' Hf2 Hh' t2 p2 s2 _ => hd σ H' Hf2 Hh' Hx t2 p2 s2) (fun c hc => hc)
def retW (f : WE) : WS := fun ρ k => f (view true ρ) k.rt k.xc
theorem sd_ret {e : Expr} {f : WE} {pos : Pos} (h : ED X xw e f) : SD X xw (.Return (some e) pos) (retW f) := by
  refine ⟨PS.imp (ps_ret h.pe) fun Dn σ H ⟨HxC, Hf, Hh, Hx, ρ, P, S, q⟩ => ?_, fun ρ k1 k2 l q => h.mo _ _ _ _ _ (fun d q => l.rt _ q) (fun c q => l.xc _ q) q⟩
  exact stR h.mo P S q (fun d hd => hd) (fun c hc => hc)
def retN : WS := fun _ k => k.rt .non
theorem sd_retN {pos : Pos} : SD X xw (.Return none pos) retN := by
  refine ⟨PS.imp ps_retN fun Dn σ H ⟨HxC, Hf, Hh, Hx, ρ, P, S, q⟩ => ?_, fun ρ k1 k2 l q => l.rt _ q⟩
  obtain ⟨Hf3, s3, p3⟩ := collapse P S.sub
  exact q .non H Hf3 Hh (Tr.sub s3) p3 .non
def setK (b : Bool) (T : Tgt) (ρ : SEnv) (k : SK) (d : D) : Prop := (b = true → d.flat = true) ∧ match T.bs d with
  | some bs => k.nx (setE ρ (bs.map fun b => (b.1, SV.fz b.2)))
  | none => False
def asgW (b : Bool) (T : Tgt) (f : WE) : WS := fun ρ k => f (view b ρ) (setK b T ρ k) k.xc
theorem setK_mono {b : Bool} {T : Tgt} {ρ : SEnv} {k1 k2 : SK} (l : SK.Le k1 k2) (d : D) (q : setK b T ρ k1 d) : setK b T ρ k2 d := by
  unfold setK at q ⊢
  refine ⟨q.1, ?_⟩
  have q := q.2
  split at q
  · exact l.nx _ q
  · exact q.elim
theorem mono_asg {b : Bool} {T : Tgt} {f : WE} (m : MonoE f) : MonoSt (asgW b T f) := fun ρ k1 k2 l q => m _ _ _ _ _ (fun d q => setK_mono l d q) (fun c q => l.xc _ q) q
/-- the store of a datum that has come -/
theorem set_go {T : Tgt} {g : TG} {b : Bool} {K : PySem.W.Frag} {HxC Hf Hh Hx Hf2 Hh2 H H' : Hp} {σ : St} {ρ : SEnv} {Dn : Ends} {d : D} {v : V}
    (gst : ∀ v d bs σ (H Hf Hh : Hp) (Q : St → Hp → Prop), Sub Hf H → Rp K Hf Hh v d → T.bs d = some bs → (∀ us, RpB K Hf Hh us bs → Q (setV σ us) H) → g v σ H Q)
    (hd : setK b T ρ (SKof K xw HxC Hf Hh Dn) d) (t2 : Tr Hf Hh Hf2 Hh2) (p2 : Pt H' Hf2 Hh2 Hx) (s2 : Ss K HxC Hf2 Hh2 Hx σ ρ) (r : (b = true → d.flat = true) → Rp K Hf2 Hh2 v d) : g v σ H' Dn.nx := by
  obtain ⟨h1, h2⟩ := hd
  split at h2
  · rename_i bs eb
    exact gst v d bs σ H' Hf2 Hh2 _ p2.sub (r h1) eb fun us hu => h2 _ H' Hf2 Hh2 Hx t2 p2 (s2.puts hu)
  · exact h2.elim
theorem sd_set {i : Nat} {x : Str} {e : Expr} {f : WE} {pos pos' : Pos} (b : Bool) (hN : X.N.Nodup) (hi : X.N[i]? = some x) (hx : Loc X.env.scope x) (he : ED X xw e f) (hs : swapsWith e (some (.Name x pos')) pos.line X.env = pure false := by rfl)
    (hf : X.fn x = true ∨ X.env.scope.names.lookup x = some .local := by first | exact .inl rfl | exact .inr rfl | assumption) : SD X xw (.Assign [.Name x pos'] e pos) (asgW b (.nm i) f) := by
  refine ⟨PS.imp (ps_set hN hi hx he.pe hs hf) fun Dn σ H ⟨HxC, Hf, Hh, Hx, ρ, P, S, q⟩ => ?_, mono_asg he.mo⟩
  refine stE he.mo b P S q (fun d hd v H' Hf2 Hh' t2 p2 s2 r => ?_) (fun c hc => hc)
  exact set_go (T := .nm i) (g := gName i) (H := H) (fun v d bs σ H Hf Hh Q s r e k => by cases e; exact k [(i, v)] (.cons ⟨rfl, r⟩ .nil)) hd t2 p2 s2 r
theorem sd_asg {tg e : Expr} {f : WE} {T : Tgt} {g : TG} {pos : Pos} (b : Bool) (he : ED X xw e f) (hg : GD X tg T g) (hs : swapsWithSole [tg] e pos.line X.env = pure false := by rfl) (hw : swappedStores [tg] e X.env = pure none := by rfl) (h1 : (assignEach [tg] X.env).map (·.2) = [assign tg X.env] := by rfl) :
    SD X xw (.Assign [tg] e pos) (asgW b T f) := by
  refine ⟨PS.imp (ps_asg he.pe hg.pg hs hw h1) fun Dn σ H ⟨HxC, Hf, Hh, Hx, ρ, P, S, q⟩ => ?_, mono_asg he.mo⟩
  exact stE he.mo b P S q (fun d hd v H' Hf2 Hh' t2 p2 s2 r => set_go (H := H) hg.st hd t2 p2 s2 r) (fun c hc => hc)
/-- the slot owns what is made -/
def ownW (b : Bool) (i : Nat) (f : WE) : WS := fun ρ k => f (view b ρ) (fun d => (b = true → d.flatIn = true) ∧ k.nx (ρ.set i (some (.own d)))) k.xc
theorem mono_own {b : Bool} {i : Nat} {f : WE} (m : MonoE f) : MonoSt (ownW b i f) := fun ρ k1 k2 l q => m _ _ _ _ _ (fun d q => ⟨q.1, l.nx _ q.2⟩) (fun c q => l.xc _ q) q
theorem own_imp {b : Bool} {i : Nat} {f : WE} {K : PySem.W.Frag} (m : MonoE f) (Dn : Ends) (σ : St) (H : Hp) (q : LS K xw (ownW b i f) Dn σ H) : LF K xw f σ H (fun x H1 => Dn.nx (σ.set i (some x)) H1) := by
  obtain ⟨HxC, Hf, Hh, Hx, ρ, P, S, q⟩ := q
  exact stF m b P S q (fun d hd p o H' Hf2 Hh' t2 p2 hp s2 r => hd.2 _ _ Hf2 Hh' _ t2 (p2.newX hp (r hd.1).noT (r hd.1).noB (r hd.1).noE) (s2.putOwn p2 hp (r hd.1))) (fun c hc => hc)
theorem sd_own {i : Nat} {x : Str} {e : Expr} {f : WE} {pos pos' : Pos} (b : Bool) (hN : X.N.Nodup) (hi : X.N[i]? = some x) (hx : Loc X.env.scope x) (he : FD X xw e f) (hs : swapsWith e (some (.Name x pos')) pos.line X.env = pure false := by rfl)
    (hf : X.fn x = true ∨ X.env.scope.names.lookup x = some .local := by first | exact .inl rfl | exact .inr rfl | assumption) : SD X xw (.Assign [.Name x pos'] e pos) (ownW b i f) :=
  ⟨PS.imp (ps_set hN hi hx he.pe hs hf) fun Dn σ H q => own_imp he.mo Dn σ H q, mono_own he.mo⟩
/-- name = [..] on one line -/
theorem sd_setLc {i : Nat} {y : Str} {py : Pos} {elt tg iter : Expr} {ifs : List Expr} {scope : Scope} {own : List (Str × Nat)} {pos spos : Pos} {T : Tgt} {g : TG} {src : WA} {tst : WT} {f : WE} (b : Bool) (hc : X.calm = true) (hN : X.N.Nodup) (hy : X.N[i]? = some y) (hyl : X.env.scope.names.lookup y = some .local)
    (hsw : swapsWith (.ListComp elt [⟨tg, iter, ifs, 0⟩] scope pos) (some (.Name y py)) spos.line X.env = pure true) (hi : ID X xw tg iter src) (ok : BlkOk X.N X.env.scope scope own)
    (hT : ∀ i ∈ T.slots, i ∈ own.map (·.2))
    (hg : ∀ (s : Shared) (H : Hp) (C : Addr) (cl : List (Str × Addr)) (fp : List Addr), GD (X.blk s H scope (compEnvC scope cl C X.env) fp) tg T g) (ht : ∀ (s : Shared) (H : Hp) (C : Addr) (cl : List (Str × Addr)) (fp : List Addr), TsD (X.blk s H scope (compEnvC scope cl C X.env) fp) noX ifs tst)
    (he : ∀ (s : Shared) (H : Hp) (C : Addr) (cl : List (Str × Addr)) (fp : List Addr), ED (X.blk s H scope (compEnvC scope cl C X.env) fp) noX elt f) (hs : ∀ x, foldedSetIterable iter X.env x = pure x := by intro _; rfl) :
    SD X xw (.Assign [.Name y py] (.ListComp elt [⟨tg, iter, ifs, 0⟩] scope pos) spos) (ownW b i (compW (own.map (·.2)) T src tst f)) := by
  have mt := (ht X.s_0 (fun _ => none) 0 [] []).mo
  have me := (he X.s_0 (fun _ => none) 0 [] []).mo
  have m := mono_comp (vs := own.map (·.2)) (T := T) hi.mo mt me
  refine ⟨PS.imp (ps_setLc (tt := LT X.K noX tst) (te := LE X.K noX f) hc hN hy hyl hsw hi.pi ok (fun s H C cl fp => (hg s H C cl fp).pg) (fun s H C cl fp => (ht s H C cl fp).pt) (fun s H C cl fp => (he s H C cl fp).pe) hs) fun Dn σ H q => ?_, mono_own m⟩
  exact comp_imp hi.mo mt me hT (hg X.s_0 (fun _ => none) 0 [] []).st σ H _ (own_imp m Dn σ H q)
/-- a, b = e1, e2 -/
def parW (b : Bool) (i j : Nat) (f : WA) : WS := fun ρ k => f (view b ρ) (fun ds => match ds with
  | [d, e] => (b = true → (d.flat && e.flat) = true) ∧ k.nx ((ρ.set i (some (.fz d))).set j (some (.fz e)))
  | _ => False) k.xc
theorem sd_par {i j : Nat} {x y : Str} {a c : Expr} {f : WA} {px py pt : Pos} {kt k2 pt2} (b : Bool) (hc : X.calm = true) (hN : X.N.Nodup) (hi : X.N[i]? = some x) (hj : X.N[j]? = some y) (hij : i ≠ j) (ha : AD X xw [a, c] f) {pos : Pos}
    (hp : ∀ t, PA X [a, c] t → PS X (.Assign [.Tuple [.Name x px, .Name y py] kt pt] (.Tuple [a, c] k2 pt2) pos) (tPar i j t)) : SD X xw (.Assign [.Tuple [.Name x px, .Name y py] kt pt] (.Tuple [a, c] k2 pt2) pos) (parW b i j f) := by
  refine ⟨PS.imp (hp _ ha.pa) fun Dn σ H ⟨HxC, Hf, Hh, Hx, ρ, P, S, q⟩ => ?_, fun ρ k1 k2 l q => ha.mo _ _ _ _ _ (fun d q => ?_) (fun c q => l.xc _ q) q⟩
  · refine stA ha.mo b P S q (fun ds hd vs H' Hf2 Hh' t2 p2 s2 r => ?_) (fun c hc => hc)
    split at hd
    · rename_i d e
      have r := r fun hb => by
        have := hd.1 hb
        rw [Bool.and_eq_true] at this
        simp [D.flats, this.1, this.2]
      obtain ⟨v, u, rfl, r1, r2⟩ := r.two
      exact ⟨v, u, rfl, hd.2 _ H' Hf2 Hh' Hx t2 p2 ((s2.put r1).put r2)⟩
    · exact hd.elim
  · split at q
    · exact ⟨q.1, l.nx _ q.2⟩
    · exact q.elim
def ifW (b : Bool) (t : WT) (f g : WS) : WS := fun ρ k => t (view b ρ) (fun c => if c = true then f ρ k else g ρ k) k.xc
theorem sd_if {c : Expr} {p q : List Stmt} {t : WT} {f g : WS} {pos : Pos} (b : Bool) (hc : TD X xw c t) (hp : SDs X xw p f) (hq : SDs X xw q g) : SD X xw (.If c p q pos) (ifW b t f g) := by
  refine ⟨PS.imp (ps_if hc.pt hp.ps hq.ps) fun Dn σ H ⟨HxC, Hf, Hh, Hx, ρ, P, S, q⟩ => ?_, fun ρ k1 k2 l h => hc.mo _ _ _ _ _ (fun d h => ?_) (fun c q => l.xc _ q) h⟩
  · refine stT hc.mo b P S q (fun d hd H' Hf2 Hh' t2 p2 s2 => ?_) (fun c hc => hc)
    cases d with
    | true => exact iteT (LS.at hp.mo p2 s2 hd (SKof.tr t2))
    | false => exact iteF (LS.at hq.mo p2 s2 hd (SKof.tr t2))
  · cases d with
    | true => exact hp.mo _ _ _ l h
    | false => exact hq.mo _ _ _ l h
def whileW (b : Bool) (t : WT) (f : WS) : WS := fun ρ k => ∃ I : Nat → SEnv → Prop, (∃ n, I n ρ) ∧ ∀ n ρ, I n ρ →
  t (view b ρ) (fun c => if c = true then f ρ { k with nx := fun ρ' => ∃ m, m < n ∧ I m ρ', ct := fun ρ' => ∃ m, m < n ∧ I m ρ', bk := k.nx } else k.nx ρ) k.xc
theorem sd_while {c : Expr} {body : List Stmt} {t : WT} {f : WS} {pos : Pos} (b : Bool) (hp : PassesOwn (model X.prog X.w) X.A X.env X.xe) (hc : TD X xw c t) (hb : SDs X xw body f) : SD X xw (.While c body [] pos) (whileW b t f) := by
  refine ⟨PS.imp (ps_while hp hc.pt hb.ps) fun Dn σ H ⟨HxC, Hf, Hh, Hx, ρ, P, S, I, ⟨n, i0⟩, st⟩ => ?_, fun ρ k1 k2 l ⟨I, i0, st⟩ => ⟨I, i0, fun n ρ i => hc.mo _ _ _ _ _ (fun d h => ?_) (fun c q => l.xc _ q) (st n ρ i)⟩⟩
  · refine ⟨fun n σ H => ∃ Hf1 Hh1 Hx1 ρ, Tr Hf Hh Hf1 Hh1 ∧ Pt H Hf1 Hh1 Hx1 ∧ Ss X.K HxC Hf1 Hh1 Hx1 σ ρ ∧ I n ρ, ⟨n, Hf, Hh, Hx, ρ, Tr.refl _ _, P, S, i0⟩, ?_⟩
    rintro n σ1 H1 ⟨Hf1, Hh1, Hx1, ρ1, T1, P1, S1, i1⟩
    refine stT hc.mo b P1 S1 (st n ρ1 i1) (fun d hd H' Hf2 Hh' t2 p2 s2 => ?_) (fun c hc => hc.tr T1)
    have T12 := T1.trans t2
    cases d with
    | true =>
      refine iteT ⟨fun σ' H' => ∃ m', m' < n ∧ ∃ Hf1 Hh1 Hx1 ρ, Tr Hf Hh Hf1 Hh1 ∧ Pt H' Hf1 Hh1 Hx1 ∧ Ss X.K HxC Hf1 Hh1 Hx1 σ' ρ ∧ I m' ρ, fun σ' H' h => h, ?_⟩
      refine LS.at hb.mo p2 s2 hd ⟨fun ρ' q σ' H' Hf3 Hh3 Hx3 T P' S' => ?_, fun _ q => q.tr T12, fun ρ' q => q.tr T12, fun ρ' q σ' H' Hf3 Hh3 Hx3 T P' S' => ?_, fun _ q => q.tr T12⟩
      · obtain ⟨m, hm, im⟩ := q
        exact ⟨m, hm, Hf3, Hh3, Hx3, ρ', T12.trans T, P', S', im⟩
      · obtain ⟨m, hm, im⟩ := q
        exact ⟨m, hm, Hf3, Hh3, Hx3, ρ', T12.trans T, P', S', im⟩
    | false => exact iteF (hd σ1 H' Hf2 Hh' Hx1 T12 p2 s2)
  · cases d with
    | true => exact hb.mo _ { k1 with nx := fun ρ' => ∃ m, m < n ∧ I m ρ', ct := fun ρ' => ∃ m, m < n ∧ I m ρ', bk := k1.nx } _ ⟨fun _ q => q, l.rt, l.nx, fun _ q => q, l.xc⟩ h
    | false => exact l.nx _ h
def forL (T : Tgt) (f : WS) : List D → SEnv → SK → Prop
  | [], ρ, k => k.nx ρ
  | d :: ds, ρ, k => match T.bs d with
    | none => False
    | some bs => f (setE ρ (bs.map fun b => (b.1, SV.fz b.2))) { k with nx := fun ρ' => forL T f ds ρ' k, ct := fun ρ' => forL T f ds ρ' k, bk := k.nx }
theorem forL_mono {T : Tgt} {f : WS} (m : MonoSt f) : ∀ (ds : List D) (ρ : SEnv) (k1 k2 : SK), SK.Le k1 k2 → forL T f ds ρ k1 → forL T f ds ρ k2
  | [], ρ, k1, k2, l, h => l.nx _ h
  | d :: ds, ρ, k1, k2, l, h => by
    rw [forL] at h ⊢
    split at h
    · exact h.elim
    · exact m _ { k1 with nx := fun ρ' => forL T f ds ρ' k1, ct := fun ρ' => forL T f ds ρ' k1, bk := k1.nx } _ ⟨fun ρ' q => forL_mono m ds ρ' _ _ l q, l.rt, l.nx, fun ρ' q => forL_mono m ds ρ' _ _ l q, l.xc⟩ h
def forW (T : Tgt) (src : WA) (f : WS) : WS := fun ρ k => src (view false ρ) (fun ds => forL T f ds ρ k) k.xc
/-- some owned slots become plain data -/
def frzE (is : List Nat) (ρ : SEnv) : SEnv := is.foldl (fun (ρ : SEnv) (i : Nat) => match ρ[i]? with
  | some (some (.own d)) => ρ.set i (some (.fz d))
  | _ => ρ) ρ
theorem for_go {T : Tgt} {f : WS} {g : TG} {K : PySem.W.Frag} {HxC Hf Hh Hf1 Hh1 Hx1 H1 : Hp} {σ : St} {ρ : SEnv} {Dn : Ends} {tb : TS} {J : It} {ds : List D} (mf : MonoSt f)
    (htb : ∀ Dn σ H, LS K xw f Dn σ H → tb Dn σ H)
    (gst : ∀ v d bs σ (H Hf Hh : Hp) (Q : St → Hp → Prop), Sub Hf H → Rp K Hf Hh v d → T.bs d = some bs → (∀ us, RpB K Hf Hh us bs → Q (setV σ us) H) → g v σ H Q)
    (wk : Walks K Hf1 Hh1 J ds) (T1 : Tr Hf Hh Hf1 Hh1) (P1 : Pt H1 Hf1 Hh1 Hx1) (S1 : Ss K HxC Hf1 Hh1 Hx1 σ ρ) (h : forL T f ds ρ (SKof K xw HxC Hf Hh Dn)) :
    ∃ W : Nat → Nat → St → Hp → Prop, (∃ m, W 0 m σ H1) ∧ ∀ i m σ H, W i m σ H →
      (J.stop i H ∧ Dn.nx σ H) ∨ (J.go i H ∧ ∃ N : St → Hp → Prop, (∀ σ' H', N σ' H' → ∃ m', m' < m ∧ W (i + 1) m' σ' H') ∧ ∀ x H', J.yld i H x H' → g x σ H' fun σ2 H2 => tb { Dn with nx := N, ct := N, bk := Dn.nx } σ2 H2) := by
  let W : Nat → Nat → St → Hp → Prop := fun i m σ H => m = ds.length - i ∧ i ≤ ds.length ∧ ∃ Hf2 Hh2 Hx2 ρ, Tr Hf1 Hh1 Hf2 Hh2 ∧ Pt H Hf2 Hh2 Hx2 ∧ Ss K HxC Hf2 Hh2 Hx2 σ ρ ∧ forL T f (ds.drop i) ρ (SKof K xw HxC Hf Hh Dn)
  refine ⟨W, ⟨ds.length, by simp, Nat.zero_le _, Hf1, Hh1, Hx1, ρ, Tr.refl _ _, P1, S1, by simpa using h⟩, ?_⟩
  rintro i m σ2 H2 ⟨rfl, hi, Hf2, Hh2, Hx2, ρ2, T2, P2, S2, lc⟩
  obtain ⟨w1, w2⟩ := wk i H2 Hf2 Hh2 _ T2 P2
  by_cases hlt : i < ds.length
  · obtain ⟨hgo, hy⟩ := w1 hlt
    refine .inr ⟨hgo, fun σ' H' => ∃ m', m' < ds.length - i ∧ W (i + 1) m' σ' H', fun σ' H' h => h, fun x H3 yl => ?_⟩
    obtain ⟨Hf3, d, T3, P3, ed, R3⟩ := hy x H3 yl
    rw [drop_lt ed, forL] at lc
    split at lc
    · exact lc.elim
    · rename_i bs eb
      refine gst x d bs _ H3 Hf3 Hh2 _ P3.sub R3 eb fun us hu => htb _ _ _ ?_
      have T13 := T2.trans T3
      have T03 := T1.trans T13
      have nxt : ∀ ρ', forL T f (ds.drop (i + 1)) ρ' (SKof K xw HxC Hf Hh Dn) → Bs K HxC Hf3 Hh2 (fun σ' H' => ∃ m', m' < ds.length - i ∧ W (i + 1) m' σ' H') ρ' := fun ρ' q σ' H' Hf4 Hh4 Hx4 T4 P4 S4 =>
        ⟨ds.length - (i + 1), by omega, rfl, hlt, Hf4, Hh4, Hx4, ρ', T13.trans T4, P4, S4, q⟩
      refine LS.at mf P3 ((S2.mono T3).puts hu) lc ⟨fun ρ' q => nxt ρ' q, fun d q => q.tr T03, fun ρ' q => q.tr T03, fun ρ' q => nxt ρ' q, fun c q => q.tr T03⟩
  · have e : i = ds.length := by omega
    subst e
    rw [List.drop_length, forL] at lc
    exact .inl ⟨w2 (Nat.le_refl _), lc σ2 H2 Hf2 Hh2 Hx2 (T1.trans T2) P2 S2⟩
theorem mono_for {T : Tgt} {src : WA} {f : WS} (ms : MonoA src) (mf : MonoSt f) : MonoSt (forW T src f) := fun ρ k1 k2 l h => ms _ _ _ _ _ (fun ds q => forL_mono mf ds ρ _ _ l q) (fun c q => l.xc _ q) h
theorem sd_for {tg iter : Expr} {body : List Stmt} {T : Tgt} {g : TG} {src : WA} {f : WS} {pos : Pos} (hp : PassesOwn (model X.prog X.w) X.A X.env X.xe) (hc : X.calm = true) (hi : ID X xw tg iter src) (hg : GD X tg T g) (hb : SDs X xw body f)
    (hps : ∀ {wi : TI} {g : TG} {tb : TS}, PI X tg iter wi → PG X tg g → PSs X body tb → PS X (.For tg iter body [] pos) (tFor wi g tb)) : SD X xw (.For tg iter body [] pos) (forW T src f) := by
  refine ⟨PS.imp (hps hi.pi hg.pg hb.ps) fun Dn σ H ⟨HxC, Hf, Hh, Hx, ρ, P, S, q⟩ => ?_, mono_for hi.mo hb.mo⟩
  obtain ⟨Hfb, Hxb, E⟩ := entry false P S
  refine ⟨Hfb, Hh, Hxb, view false ρ, E.pt, E.sl, hi.mo _ _ _ _ _ (fun ds hd J H1 Hf1 Hh1 T1 P1 wk hz => ?_) (fun c hc H' Hf' Hh' T' P' => ?_) q⟩
  · obtain ⟨Hf2, t2, p2, s2, _, _, e2⟩ := E.back H1 Hf1 Hh1 T1 P1
    have e2 := e2 rfl
    subst e2
    exact for_go hb.mo (fun _ _ _ h => h) hg.st wk t2 p2 s2 hd
  · obtain ⟨Hf3, s3, p3⟩ := collapse P' E.sub
    exact hc H' Hf3 Hh' (E.tr.trans (T'.trans (Tr.sub s3))) p3

/-- a range walks whatever stands in the heap -/
structure IDr (X : Cx) (xw : XW) (tg e : Expr) (f : WA) : Prop where
  pi : PI X tg e (fun σ H R => ∃ Hf Hh Hx ρ, Pt H Hf Hh Hx ∧ Sl X.K Hf Hh σ ρ ∧ f ρ (fun ds => ∀ J H' Hf' Hh', Tr Hf Hh Hf' Hh' → Pt H' Hf' Hh' Hx → (∀ Hf2 Hh2, Walks X.K Hf2 Hh2 J ds) → R J H') (Bx Hf Hh Hx xw))
  mo : MonoA f
theorem idr_rng1 {tg a : Expr} {f : WA} {p pos : Pos} (hg : Gl X "range") (hm : X.mg "range" = none) (ha : AD X xw [a] f) (hs : starEach [a] X.env = [(false, eval a X.env)] := by rfl) : IDr X xw tg (.Call (.Name "range" p) [a] [] pos) (rng1A f) := by
  refine ⟨PI.imp (pi_range1 hg hm ha.pa hs) fun σ H R ⟨Hf, Hh, Hx, ρ, P, S, q⟩ => ?_, fun ρ K1 K2 X1 X2 hk hx q => ha.mo _ _ _ _ _ (fun d q => ?_) hx q⟩
  · refine LA.at ha.mo P S q (fun ds hd vs H' Hf' Hh' T' P' R' => ?_) (fun c hc => hc)
    split at hd
    · obtain ⟨v, rfl, r⟩ := R'.one
      cases r
      obtain ⟨⟨h1, h2⟩, hd⟩ := hd
      exact ⟨_, rfl, by omega, by omega, hd _ H' Hf' Hh' T' P' (fun _ _ => walks_rg _ _)⟩
    · exact hd.elim
  · split at q
    · exact ⟨q.1, hk _ q.2⟩
    · exact q.elim
theorem idr_rng2 {tg a b : Expr} {f : WA} {p pos : Pos} (hg : Gl X "range") (hm : X.mg "range" = none) (ha : AD X xw [a, b] f) (hs : starEach [a, b] X.env = [(false, eval a X.env), (false, eval b X.env)] := by rfl) (hs2 : starEach [b] X.env = [(false, eval b X.env)] := by rfl) :
    IDr X xw tg (.Call (.Name "range" p) [a, b] [] pos) (rng2A f) := by
  refine ⟨PI.imp (pi_range2 hg hm ha.pa hs hs2) fun σ H R ⟨Hf, Hh, Hx, ρ, P, S, q⟩ => ?_, fun ρ K1 K2 X1 X2 hk hx q => ha.mo _ _ _ _ _ (fun d q => ?_) hx q⟩
  · refine LA.at ha.mo P S q (fun ds hd vs H' Hf' Hh' T' P' R' => ?_) (fun c hc => hc)
    split at hd
    · obtain ⟨v, u, rfl, r, r'⟩ := R'.two
      cases r; cases r'
      obtain ⟨⟨h1, h2, h3, h4⟩, hd⟩ := hd
      exact ⟨_, _, rfl, ⟨by omega, by omega, by omega, by omega⟩, hd _ H' Hf' Hh' T' P' (fun _ _ => walks_rg _ _)⟩
    · exact hd.elim
  · split at q
    · exact ⟨q.1, hk _ q.2⟩
    · exact q.elim
theorem idr_rng3 {tg a b c : Expr} {f : WA} {p pos : Pos} (hg : Gl X "range") (hm : X.mg "range" = none) (ha : AD X xw [a, b, c] f)
    (hs : starEach [a, b, c] X.env = (false, eval a X.env) :: starEach [b, c] X.env := by rfl) (hpl : (backTo pos (starEach [b, c] X.env)).any (·.1) = false := by rfl) :
    IDr X xw tg (.Call (.Name "range" p) [a, b, c] [] pos) (rng3A f) := by
  refine ⟨PI.imp (pi_range3 hg hm ha.pa hs hpl) fun σ H R ⟨Hf, Hh, Hx, ρ, P, S, q⟩ => ?_, fun ρ K1 K2 X1 X2 hk hx q => ha.mo _ _ _ _ _ (fun d q => ?_) hx q⟩
  · refine LA.at ha.mo P S q (fun ds hd vs H' Hf' Hh' T' P' R' => ?_) (fun c hc => hc)
    split at hd
    · obtain ⟨n, ⟨h1, h2⟩, hd⟩ := hd
      cases R' with
      | cons r1 r2 =>
        cases r2 with
        | cons r2 r3 =>
          cases r3 with
          | cons r3 r4 =>
            cases r4; cases r1; cases r2; cases r3
            exact ⟨_, _, _, n, rfl, h1, hd _ H' Hf' Hh' T' P' (fun _ _ => walks_rgc _ _ _)⟩
    · exact hd.elim
  · split at q
    · obtain ⟨n, h, q⟩ := q; exact ⟨n, h, hk _ q⟩
    · exact q.elim
def forRW (T : Tgt) (src : WA) (f : WS) : WS := fun ρ k => src (view true ρ) (fun ds => forL T f ds ρ k) k.xc
theorem sd_forR {tg iter : Expr} {body : List Stmt} {T : Tgt} {g : TG} {src : WA} {f : WS} {pos : Pos} (hp : PassesOwn (model X.prog X.w) X.A X.env X.xe) (hc : X.calm = true) (hi : IDr X xw tg iter src) (hg : GD X tg T g) (hb : SDs X xw body f)
    (hs : ∀ x, foldedSetIterable iter X.env x = pure x := by intro _; rfl) : SD X xw (.For tg iter body [] pos) (forRW T src f) := by
  refine ⟨PS.imp (ps_for hp hc hi.pi hg.pg hb.ps hs) fun Dn σ H ⟨HxC, Hf, Hh, Hx, ρ, P, S, q⟩ => ?_, fun ρ k1 k2 l h => hi.mo _ _ _ _ _ (fun ds q => forL_mono hb.mo ds ρ _ _ l q) (fun c q => l.xc _ q) h⟩
  obtain ⟨Hfb, Hxb, E⟩ := entry true P S
  refine ⟨Hfb, Hh, Hxb, view true ρ, E.pt, E.sl, hi.mo _ _ _ _ _ (fun ds hd J H1 Hf1 Hh1 T1 P1 wk => ?_) (fun c hc H' Hf' Hh' T' P' => ?_) q⟩
  · obtain ⟨Hf2, t2, p2, s2, _⟩ := E.back H1 Hf1 Hh1 T1 P1
    exact for_go hb.mo (fun _ _ _ h => h) hg.st (wk _ _) t2 p2 s2 hd
  · obtain ⟨Hf3, s3, p3⟩ := collapse P' E.sub
    exact hc H' Hf3 Hh' (E.tr.trans (T'.trans (Tr.sub s3))) p3
theorem sd_forL {tg iter : Expr} {body : List Stmt} {T : Tgt} {g : TG} {src : WA} {f : WS} {pos : Pos} (hp : PassesOwn (model X.prog X.w) X.A X.env X.xe) (hc : X.calm = true) (hi : ID X xw tg iter src) (hg : GD X tg T g) (hb : SDs X xw body f)
    (hs : ∀ x, foldedSetIterable iter X.env x = pure x := by intro _; rfl) : SD X xw (.For tg iter body [] pos) (forW T src f) :=
  sd_for hp hc hi hg hb fun h1 h2 h3 => ps_for hp hc h1 h2 h3 hs
theorem Ss.frz1 {K : PySem.W.Frag} {HxC Hf Hh Hx H : Hp} {σ : St} {ρ : SEnv} {i : Nat} {d : D} (P : Pt H Hf Hh Hx) (S : Ss K HxC Hf Hh Hx σ ρ) (e : ρ[i]? = some (some (.own d))) : ∃ Hf' Hx', Sub Hf Hf' ∧ Pt H Hf' Hh Hx' ∧ Ss K HxC Hf' Hh Hx' σ (ρ.set i (some (.fz d))) := by
  obtain ⟨a, o, h1, h2, h3, r⟩ := S.own i d e
  let A : Addr → Prop := fun b => b = a
  have p := P.mix (A := A) fun b hb => by cases hb; exact ⟨o, h2⟩
  have s0 : Sub Hf (mixF A Hf Hx) := fun b u q => by
    have : ¬ A b := fun z => by cases z; rw [(P.f a u q).2.2] at h2; cases h2
    rw [mixF_out this]; exact q
  have rA : Rp K (mixF A Hf Hx) Hh (.ref a) d := (r.mono (Tr.sub s0)).rp ((mixF_in (A := A) (show A a from rfl)).trans h2)
  have other : ∀ {j : Nat} {x : Option SV}, j ≠ i → (ρ.set i (some (.fz d)))[j]? = some x → ρ[j]? = some x := fun h e => by rw [List.getElem?_set_ne (Ne.symm h)] at e; exact e
  have hlt : i < ρ.length := by
    rcases Nat.lt_or_ge i ρ.length with q | q
    · exact q
    · rw [List.getElem?_eq_none q] at e; cases e
  have same : (ρ.set i (some (.fz d)))[i]? = some (some (.fz d)) := by rw [List.getElem?_set_self hlt]
  refine ⟨_, _, s0, p, by simpa using S.len, fun j u h => ?_, fun j u h => ?_, fun j u h => ?_, fun j l u u' b hjl g1 g2 g3 => ?_, fun b u q => ?_⟩
  · by_cases hj : j = i
    · subst hj; rw [same] at h; cases h; exact ⟨_, h1, rA⟩
    · obtain ⟨v, z1, z2⟩ := S.fz j u (other hj h)
      exact ⟨v, z1, z2.mono (Tr.sub s0)⟩
  · have hj : j ≠ i := fun z => by subst z; rw [same] at h; cases h
    obtain ⟨b, u', z1, z2, z3, z4⟩ := S.own j u (other hj h)
    have hb : ¬ A b := fun z => by cases z; exact S.sep i j d u a (Ne.symm hj) e (other hj h) h1 z1
    exact ⟨b, u', z1, by rw [cutX_out hb]; exact z2, z3, z4.mono (Tr.sub s0)⟩
  · have hj : j ≠ i := fun z => by subst z; rw [same] at h; cases h
    obtain ⟨kn, b, ws, z1, z2, z3, z4⟩ := S.trk j u (other hj h)
    exact ⟨kn, b, ws, z1, s0 _ _ z2, z3, z4.mono (Tr.sub s0)⟩
  · have hj : j ≠ i := fun z => by subst z; rw [same] at g1; cases g1
    have hl : l ≠ i := fun z => by subst z; rw [same] at g2; cases g2
    exact S.sep j l u u' b hjl (other hj g1) (other hl g2) g3
  · have hb : ¬ A b := fun z => by cases z; rw [h3] at q; cases q
    rw [cutX_out hb]; exact S.sub b u q
theorem Ss.frz {K : PySem.W.Frag} {HxC Hh H : Hp} {σ : St} : ∀ (is : List Nat) {Hf Hx : Hp} {ρ : SEnv}, Pt H Hf Hh Hx → Ss K HxC Hf Hh Hx σ ρ → ∃ Hf' Hx', Sub Hf Hf' ∧ Pt H Hf' Hh Hx' ∧ Ss K HxC Hf' Hh Hx' σ (frzE is ρ)
  | [], Hf, Hx, ρ, P, S => ⟨Hf, Hx, Sub.refl _, P, S⟩
  | i :: is, Hf, Hx, ρ, P, S => by
    cases e : ρ[i]? with
    | none =>
      obtain ⟨a, b, s, p, q⟩ := Ss.frz is P S
      exact ⟨a, b, s, p, by simpa [frzE, e] using q⟩
    | some x =>
      cases x with
      | none =>
        obtain ⟨a, b, s, p, q⟩ := Ss.frz is P S
        exact ⟨a, b, s, p, by simpa [frzE, e] using q⟩
      | some y =>
        cases y with
        | fz d =>
          obtain ⟨a, b, s, p, q⟩ := Ss.frz is P S
          exact ⟨a, b, s, p, by simpa [frzE, e] using q⟩
        | trk d =>
          obtain ⟨a, b, s, p, q⟩ := Ss.frz is P S
          exact ⟨a, b, s, p, by simpa [frzE, e] using q⟩
        | own d =>
          obtain ⟨Hf1, Hx1, s1, p1, q1⟩ := Ss.frz1 P S e
          obtain ⟨a, b, s, p, q⟩ := Ss.frz is p1 q1
          exact ⟨a, b, s1.trans s, p, by simpa [frzE, e] using q⟩
def frzW (is : List Nat) (f : WS) : WS := fun ρ k => f (frzE is ρ) k
theorem sd_frz {st : Stmt} {f : WS} (is : List Nat) (h : SD X xw st f) : SD X xw st (frzW is f) := by
  refine ⟨PS.imp h.ps fun Dn σ H ⟨HxC, Hf, Hh, Hx, ρ, P, S, q⟩ => ?_, fun ρ k1 k2 l q => h.mo _ _ _ l q⟩
  obtain ⟨Hf', Hx', s, p, S'⟩ := Ss.frz is P S
  exact LS.at h.mo p S' q (SKof.tr (Tr.sub s))
def raiseW (c : String) : WS := fun _ k => k.xc c
theorem sd_raise {CA : String → Addr} {c : String} {e : Expr} {pos : Pos} (hc : X.calm = true) (tk : Takes X (fun cls d _ H => EX CA xw cls d H)) (hm : PMk X e (fun _ H Q => Q (.ref (CA c)) none H)) : SD X xw (.Raise (some e) none pos) (raiseW c) := by
  refine ⟨PS.imp (ps_raise hc tk hm) fun Dn σ H ⟨HxC, Hf, Hh, Hx, ρ, P, S, q⟩ => ?_, fun ρ k1 k2 l q => l.xc _ q⟩
  obtain ⟨Hf3, s3, p3⟩ := collapse P S.sub
  exact ⟨c, rfl, rfl, q H Hf3 Hh (Tr.sub s3) p3⟩
end
def startE (N : List Str) (ds : List D) : SEnv := ds.map (fun d => some (.fz d)) ++ List.replicate (N.length - ds.length) none
theorem start_ss {K : PySem.W.Frag} {Hf Hh Hx : Hp} {N : List Str} {vs : List V} {ds : List D} (r : RpAll K Hf Hh vs ds) : Ss K Hx Hf Hh Hx (L2.start N vs) (startE N ds) := by
  have hl := r.length
  have noOwn : ∀ (i : Nat) (d : D), (startE N ds)[i]? ≠ some (some (.own d)) := fun i d e => by
    unfold startE at e
    rw [List.getElem?_append] at e
    split at e
    · rw [List.getElem?_map] at e
      cases q : ds[i]? with
      | none => rw [q] at e; cases e
      | some x => rw [q] at e; simp at e
    · rw [List.getElem?_replicate] at e
      split at e <;> cases e
  have noTrk : ∀ (i : Nat) (d : List D), (startE N ds)[i]? ≠ some (some (.trk d)) := fun i d e => by
    unfold startE at e
    rw [List.getElem?_append] at e
    split at e
    · rw [List.getElem?_map] at e
      cases q : ds[i]? with
      | none => rw [q] at e; cases e
      | some x => rw [q] at e; simp at e
    · rw [List.getElem?_replicate] at e
      split at e <;> cases e
  refine ⟨by simp [startE, L2.start, hl], fun i d e => ?_, fun i d e => absurd e (noOwn i d), fun i d e => absurd e (noTrk i d), fun i j d e a _ h1 _ _ => absurd h1 (noOwn i d), Sub.refl _⟩
  unfold startE at e
  unfold L2.start
  rw [List.getElem?_append] at e ⊢
  simp only [List.length_map] at e ⊢
  rw [hl]
  split at e
  · rename_i h
    rw [if_pos h]
    rw [List.getElem?_map] at e ⊢
    cases q : ds[i]? with
    | none => rw [q] at e; cases e
    | some x =>
      rw [q] at e
      simp at e
      subst e
      obtain ⟨v, hv, rv⟩ := r.get q
      exact ⟨v, by rw [hv]; rfl, rv⟩
  · rw [List.getElem?_replicate] at e
    split at e <;> cases e
section
variable {P : Program} {w : World} {K : PySem.W.Frag} {mg : Str → Option Value} {base : Heap} {CA : String → Addr}
/-- the exceptions that a def lets out -/
def XWof (CA : String → Addr) (E : XK) : XW := fun c H => E (.ref (CA c)) none H
theorem ctx_def {N : List Str} {qual : Str} {sc : Scope} {f : Addr} {cdv : Value} {A : Around} {outer : List Env} {s : Shared} {H : Hp} {E : XK} : Takes (cxOf (L2.CX P w) P w K mg base N qual sc f cdv A outer s H E) (fun cls d _ H => EX CA (XWof CA E) cls d H) :=
  (takes_of rfl rfl rfl rfl).imp fun cls d σ H ⟨c, e1, e2, h⟩ => by subst e1 e2; exact h
/-- THE RULE of a def: its body's derivation, and the reading of it -/
theorem dfn_ok {x qual : Str} {st : Stmt} {f : Addr} {fd : FuncData} {N ps : List Str} {k : Nat} {S : SF} {W : WS} (F : Fun K x qual st f fd) (Sc : FnScope N ps (defScope st)) (hm : mg x = some (.ref f)) (hb : Binds K fd ps []) (mo : MonoS S)
    (len : ∀ ds Kr Kx, S ds Kr Kx → ds.length = ps.length)
    (der : ∀ (cdv : Value) (A : Around) (outer : List Env) (s : Shared) (H : Hp) (E : XK), Room k (A.deeper (envOfC qual (defScope st) s.heap.objs.size f cdv)) →
      Ctx (cxOf (L2.CX P w) P w K mg base N qual (defScope st) f cdv A outer s H E) CA (XWof CA E) → SDs (cxOf (L2.CX P w) P w K mg base N qual (defScope st) f cdv A outer s H E) (XWof CA E) (defBody st) W)
    (rd : ∀ ds Kr Kx, S ds Kr Kx → W (startE N ds) ⟨fun _ => Kr .non, Kr, fun _ => False, fun _ => False, Kx⟩) : DFn P w K mg base CA (k + 1) x S := by
  refine ⟨⟨f, fd, ps, F.okX Sc (fun vs H Q E ⟨Hf, Hh, Hx, ds, p, r, h⟩ => by rw [r.length]; exact len _ _ _ h) (fun cdv A outer s H vs Q E hr ⟨Hf, Hh, Hx, ds, p, r, h⟩ => ?_), hm, F.kp, hb⟩, mo⟩
  have tk := ctx_def (P := P) (w := w) (K := K) (mg := mg) (base := base) (CA := CA) (N := N) (qual := qual) (sc := defScope st) (f := f) (cdv := cdv) (A := A) (outer := outer) (s := s) (H := H) (E := E)
  have d := der cdv A outer s H E hr ⟨rfl, fun σ => (passAt tk σ)⟩
  refine ⟨_, d.ps, ?_⟩
  refine LS.at d.mo p (start_ss r) (rd _ _ _ h) ⟨fun ρ q σ' H' Hf' Hh' Hx' T P' S' => ?_, fun dd q => q, fun _ q => q.elim, fun _ q => q.elim, fun c q => q⟩
  obtain ⟨Hf3, s3, p3⟩ := collapse P' S'.sub
  exact q .non H' Hf3 Hh' (T.trans (Tr.sub s3)) p3 .non
end
end DL

set_option Elab.async false
set_option linter.all false
set_option maxRecDepth 100000
set_option maxHeartbeats 4000000
namespace DL
open PySem PySem.Spec PyProof.Rows L2
variable [TabsC]
section
variable {X : Cx} {xw : XW}
theorem dv (i : Nat) {x : Str} {pos : Pos} (hN : X.N[i]? = some x := by rfl) (hv : Vis X.env.scope x := by first | exact Or.inl rfl | exact Or.inr (Or.inl rfl) | exact Or.inr (Or.inr rfl)) (hd : (x == ("__debug__" : Str)) = false := by decide)
    (hcd : (x == ("__classdict__" : Str)) = false := by decide) : ED X xw (.Name x pos) (varW i) := ed_var hN hv hd hcd
theorem dn (i : Nat) {x : Str} {pos : Pos} (hN : X.N.Nodup) (hi : X.N[i]? = some x := by rfl) (hx : Loc X.env.scope x := by first | exact .inl rfl | exact .inr rfl) (hf : X.fn x = true ∨ X.env.scope.names.lookup x = some .local := by first | exact .inl rfl | exact .inr rfl) : GD X (.Name x pos) (.nm i) (gName i) := gd_nm hN hi hx hf
theorem td_cmp {op : CmpOp} {g : W2} {fa fb : WE} {a b : Expr} {pos : Pos} (ho : OpD X (compareOp op) g) (ha : ED X xw a fa) (hb : ED X xw b fb) (hm : behindInMarks op b = false) : TD X xw (.Compare a [op] [b] pos) (boolW (binW g fa fb)) := by
  have m := mono_bin ho.mo ha.mo hb.mo
  refine ⟨PT.imp (pt_cmpR ho.op ha.pe hb.pe hm) fun σ H Q ⟨Hf, Hh, Hx, ρ, P, S, q⟩ => ?_, mono_bool m⟩
  refine bin_imp ho.mo ha hb σ H _ (LE.at m P S q (fun d hd v H' Hf' Hh' T' P' R' => ?_) (fun c hc => hc))
  unfold boolK at hd
  split at hd
  · cases R'; exact ⟨_, rfl, hd H' Hf' Hh' T' P'⟩
  · exact hd.elim
def inW : W2 := fun x y K => match y with
  | .list ds => (x.cm = true ∧ (D.list ds).cm = true) ∧ K (.bool (ds.any fun z => z.eqv x))
  | .tuple ds => (x.cm = true ∧ (D.tuple ds).cm = true) ∧ K (.bool (ds.any fun z => z.eqv x))
  | _ => False
def notInW : W2 := fun x y K => match y with
  | .list ds => (x.cm = true ∧ (D.list ds).cm = true) ∧ K (.bool (!ds.any fun z => z.eqv x))
  | .tuple ds => (x.cm = true ∧ (D.tuple ds).cm = true) ∧ K (.bool (!ds.any fun z => z.eqv x))
  | _ => False
theorem pys_map (ds : List D) : D.pys ds = ds.map D.py := by
  induction ds with
  | nil => rw [D.pys]; rfl
  | cons d ds ih => rw [D.pys, ih]; rfl
theorem any_py (x : D) (ds : List D) : ((D.pys ds).any fun z => PyData.eqv z x.py) = ds.any fun z => z.eqv x := by
  rw [pys_map, List.any_map]; rfl
def rInT (K : PySem.W.Frag) (neg : Bool) : R2 := fun x y H Q => ∃ d ds, Dp K H x d ∧ (Dp K H y (.list ds) ∧ SeqAt.shaped (.list ds) = true ∨ Dp K H y (.tuple ds) ∧ SeqAt.shaped (.tuple ds) = true) ∧ SeqAt.shaped d = true ∧ Q (.bl (if neg then !(ds.any fun z => PyData.eqv z d) else ds.any fun z => PyData.eqv z d)) H
theorem op_inT (hu : X.A.units + 65 < cLine) : OpR X (compareOp .In) (rInT X.K false) := by
  intro pins s σ H x y v u Q I rx ry h
  obtain ⟨d, ds, hd, he, sd, q⟩ := h
  obtain ⟨as, r1⟩ := Dp.reads I d x v hd rx
  rcases he with ⟨he, se⟩ | ⟨he, se⟩
  · obtain ⟨bs, r2⟩ := Dp.reads I (.list ds) y u he ry
    exact SeqAt.in_list_reads r2 r1 (SeqAt.canLay_of_shaped se) (SeqAt.canLay_of_shaped sd) (room_in_shaped sd hu) ⟨.bl _, H, I, rfl, q⟩
  · obtain ⟨bs, r2⟩ := Dp.reads I (.tuple ds) y u he ry
    exact SeqAt.in_tuple_reads r2 r1 (SeqAt.canLay_of_shaped se) (SeqAt.canLay_of_shaped sd) (room_in_shaped sd hu) ⟨.bl _, H, I, rfl, q⟩
theorem op_notInT (hu : X.A.units + 65 < cLine) : OpR X (compareOp .NotIn) (rInT X.K true) := by
  intro pins s σ H x y v u Q I rx ry h
  obtain ⟨d, ds, hd, he, sd, q⟩ := h
  obtain ⟨as, r1⟩ := Dp.reads I d x v hd rx
  rcases he with ⟨he, se⟩ | ⟨he, se⟩
  · obtain ⟨bs, r2⟩ := Dp.reads I (.list ds) y u he ry
    exact SeqAt.notIn_list_reads r2 r1 (SeqAt.canLay_of_shaped se) (SeqAt.canLay_of_shaped sd) (room_in_shaped sd hu) ⟨.bl _, H, I, rfl, q⟩
  · obtain ⟨bs, r2⟩ := Dp.reads I (.tuple ds) y u he ry
    exact SeqAt.notIn_tuple_reads r2 r1 (SeqAt.canLay_of_shaped se) (SeqAt.canLay_of_shaped sd) (room_in_shaped sd hu) ⟨.bl _, H, I, rfl, q⟩
theorem Rp.in_list {K : PySem.W.Frag} {H Hf Hh : Hp} {v u : V} {x : D} {ds : List D} {neg : Bool} (s : Sub Hf H) (rx : Rp K Hf Hh v x) (ry : Rp K Hf Hh u (.list ds)) (h1 : x.cm = true) (h2 : (D.list ds).cm = true) {Q : VK} (q : Q (.bl (if neg then !(ds.any fun z => z.eqv x) else ds.any fun z => z.eqv x)) H) : rInT K neg v u H Q := by
  have a := Bool.and_eq_true_iff.mp h1
  have b := Bool.and_eq_true_iff.mp h2
  have e : D.py (.list ds) = .list (D.pys ds) := by rw [D.py]
  exact ⟨x.py, D.pys ds, rx.dp s a.1, .inl ⟨by have := ry.dp s b.1; rw [e] at this; exact this, by have := b.2; rw [e] at this; exact this⟩, a.2, by rw [any_py]; exact q⟩
theorem Rp.in_tup {K : PySem.W.Frag} {H Hf Hh : Hp} {v u : V} {x : D} {ds : List D} {neg : Bool} (s : Sub Hf H) (rx : Rp K Hf Hh v x) (ry : Rp K Hf Hh u (.tuple ds)) (h1 : x.cm = true) (h2 : (D.tuple ds).cm = true) {Q : VK} (q : Q (.bl (if neg then !(ds.any fun z => z.eqv x) else ds.any fun z => z.eqv x)) H) : rInT K neg v u H Q := by
  have a := Bool.and_eq_true_iff.mp h1
  have b := Bool.and_eq_true_iff.mp h2
  have e : D.py (.tuple ds) = .tuple (D.pys ds) := by rw [D.py]
  exact ⟨x.py, D.pys ds, rx.dp s a.1, .inr ⟨by have := ry.dp s b.1; rw [e] at this; exact this, by have := b.2; rw [e] at this; exact this⟩, a.2, by rw [any_py]; exact q⟩
theorem od_in (hu : X.A.units + 65 < cLine) : OpD X (compareOp .In) inW := by
  refine ⟨OpR.imp (op_inT hu) fun x y H Q ⟨Hf, Hh, Hx, dx, dy, P, rx, ry, h⟩ => ?_, fun x y K1 K2 hk h => ?_⟩
  · unfold inW at h
    split at h
    · exact Rp.in_list (neg := false) P.sub rx ry h.1.1 h.1.2 (h.2.now P (.bool _))
    · exact Rp.in_tup (neg := false) P.sub rx ry h.1.1 h.1.2 (h.2.now P (.bool _))
    · exact h.elim
  · unfold inW at h ⊢
    split at h <;> first | exact ⟨h.1, hk _ h.2⟩ | exact h.elim
theorem od_notin (hu : X.A.units + 65 < cLine) : OpD X (compareOp .NotIn) notInW := by
  refine ⟨OpR.imp (op_notInT hu) fun x y H Q ⟨Hf, Hh, Hx, dx, dy, P, rx, ry, h⟩ => ?_, fun x y K1 K2 hk h => ?_⟩
  · unfold notInW at h
    split at h
    · exact Rp.in_list (neg := true) P.sub rx ry h.1.1 h.1.2 (h.2.now P (.bool _))
    · exact Rp.in_tup (neg := true) P.sub rx ry h.1.1 h.1.2 (h.2.now P (.bool _))
    · exact h.elim
  · unfold notInW at h ⊢
    split at h <;> first | exact ⟨h.1, hk _ h.2⟩ | exact h.elim
theorem units65 {k : Nat} {A : Around} (r : Room k A) : A.units + 65 < cLine := by have := r.un; omega
/-- the facts of an exception's class -/
structure ExcF (K : PySem.W.Frag) (mg : Str → Option Value) (CA : String → Addr) (c : String) (bm : List Value) : Prop where
  g : mg (Str.ofString c) = some (.ref (CA c))
  k : PySem.W.keepIn K (.ref (CA c)) = true
  q : PySem.W.excIn K (CA c) bm "ValueError.__new__" = true
  b : PySem.W.subIn K (.ref (CA c)) (.type "BaseException") = some true
  t : PySem.W.typeIn K (.ref (CA c)) = some (.type "type")
theorem pmk_own0 {C : Addr} {bmB : List Value} {B newId initId : String} {x : Str} {p pos : Pos} (F : ExcBaseFacts B newId initId bmB) (q : PySem.W.excIn X.K C bmB newId = true) (gC : X.mg x = some (.ref C))
    (kC : PySem.W.keepIn X.K (.ref C) = true) (r : Raises X (.ref C)) (hg : Gl X x) (hdb : (x == ("__debug__" : Str)) = false := by decide) : PMk X (.Call (.Name x p) [] [] pos) (fun _ H Q => Q (.ref C) none H) := by
  intro pins s σ H Q I h
  refine wpAny_Call_Name_kw (ld_glob I hg gC ?_ hdb)
  refine PySem.W.callWith_K0 I.kIn kC ?_
  obtain ⟨bm, N, nm, qn, bs, hdct, sn, sub, ab, col, dd, k0, k1, k2, k3, k5, mN, hC, hN, hni, T⟩ := exc_obj I.kIn q
  refine wpAny_call_exc_subT F T hC hN hni (fun h' e hm => ?_) (Nat.zero_le _)
  exact mk_of I hm r h (I.hok.gone hm.new)
theorem sd_raise0 {CA : String → Addr} {c : String} {p pos pos2 : Pos} (E : ExcF X.K X.mg CA c [.type "ValueError", .type "Exception", .type "BaseException", .type "object"]) (hc : X.calm = true) (tk : Takes X (fun cls d _ H => EX CA xw cls d H)) (hg : Gl X (Str.ofString c)) (hdb : (Str.ofString c == ("__debug__" : Str)) = false := by decide) :
    SD X xw (.Raise (some (.Call (.Name (Str.ofString c) p) [] [] pos)) none pos2) (raiseW c) :=
  sd_raise (c := c) hc tk (pmk_own0 PySem.F.excBase_ValueError E.q E.g E.k (raises_own E.b E.t) hg hdb)
def ownL (ρ : SEnv) (i : Nat) (K : List D → Prop) : Prop := match ρ[i]? with
  | some (some (.own (.list ds))) => K ds
  | _ => False
theorem ownL_mono {ρ : SEnv} {i : Nat} {K1 K2 : List D → Prop} (hk : ∀ ds, K1 ds → K2 ds) (h : ownL ρ i K1) : ownL ρ i K2 := by
  unfold ownL at h ⊢
  split at h
  · exact hk _ h
  · exact h.elim
def appW (b : Bool) (i : Nat) (f : WE) : WS := fun ρ k => ownL ρ i fun ds => f (view b ρ) (fun d => ((b = true → d.flat = true) ∧ ds.length < 16777216) ∧ k.nx (ρ.set i (some (.own (.list (ds ++ [d])))))) k.xc
theorem ss_own {K : PySem.W.Frag} {HxC Hf Hh Hx : Hp} {σ : St} {ρ : SEnv} {i : Nat} {ds : List D} (S : Ss K HxC Hf Hh Hx σ ρ) (e : ρ[i]? = some (some (.own (.list ds)))) : ∃ a vs, σ[i]? = some (some (.ref a)) ∧ Hx a = some (.lst vs) ∧ HxC a = none ∧ vs.length ≤ sizeLine ∧ RpAll K Hf Hh vs ds := by
  obtain ⟨a, o, h1, h2, h3, r⟩ := S.own i _ e
  obtain ⟨vs, rfl, z, r⟩ := (r : ∃ vs, o = .lst vs ∧ vs.length ≤ sizeLine ∧ RpAll K Hf Hh vs ds)
  exact ⟨a, vs, h1, h2, h3, z, r⟩
theorem sd_app {i : Nat} {x : Str} {e : Expr} {f : WE} {np apos cpos pos : Pos} (b : Bool) (h : ED X xw e f) (hN : X.N[i]? = some x := by rfl) (hv : Vis X.env.scope x := by first | exact Or.inl rfl | exact Or.inr (Or.inl rfl) | exact Or.inr (Or.inr rfl))
    (hd : (x == ("__debug__" : Str)) = false := by decide) (hcd : (x == ("__classdict__" : Str)) = false := by decide)
    (hp : ∀ t, PE X e t → PS X (.Expr (.Call (.Attribute (.Name x np) (Str.ofString "append") apos) [e] [] cpos) pos) (tDrop (tBM X.K "list" rAppend (tVar i) (tCons t tNil))) := by
      exact fun t ht => ps_expr (pe_bm PySem.F.plainAttrs_list PySem.F.slot_list_append PySem.F.type_list_append mt_append (pv _) (pa_cons ht pa_nil))) :
    SD X xw (.Expr (.Call (.Attribute (.Name x np) (Str.ofString "append") apos) [e] [] cpos) pos) (appW b i f) := by
  refine ⟨PS.imp (hp _ h.pe) fun Dn σ H ⟨HxC, Hf, Hh, Hx, ρ, P, S, q⟩ => ?_, fun ρ k1 k2 l q => ownL_mono (fun ds q => h.mo _ _ _ _ _ (fun d q => ⟨q.1, l.nx _ q.2⟩) (fun c q => l.xc _ q) q) q⟩
  unfold appW ownL at q
  split at q
  · rename_i ds eo
    obtain ⟨a, vs, h1, h2, h3, z, r⟩ := ss_own S eo
    refine ⟨.ref a, h1, .inl ⟨rfl, vs, SqL.of (P.x a _ h2).1⟩, ?_⟩
    refine stE h.mo b P S q (fun d hd v H' Hf2 Hh' t2 p2 s2 rv => ?_) (fun c hc => hc)
    have hz : vs.length < sizeLine := by rw [r.length, sizeLine_eq]; exact hd.1.2
    refine ⟨a, vs, v, rfl, rfl, (p2.x a _ h2).1, hz, ?_⟩
    exact hd.2 _ _ Hf2 Hh' _ t2 (p2.setX h2) (s2.mut eo h1 h3 ⟨vs ++ [v], rfl, by rw [List.length_append]; exact hz, (r.mono t2).append (.cons (rv hd.1.1) .nil)⟩)
  · exact q.elim
/-- x.extend(e), e a list -/
def extW (b : Bool) (i : Nat) (f : WE) : WS := fun ρ k => ownL ρ i fun ds => f (view b ρ) (fun d => match d with
  | .list es => ((b = true → D.flats es = true) ∧ ds.length + es.length ≤ 16777216) ∧ k.nx (ρ.set i (some (.own (.list (ds ++ es)))))
  | _ => False) k.xc
theorem sd_ext {i : Nat} {x : Str} {e : Expr} {f : WE} {np apos cpos pos : Pos} (h : ED X xw e f) (hN : X.N[i]? = some x := by rfl) (hv : Vis X.env.scope x := by first | exact Or.inl rfl | exact Or.inr (Or.inl rfl) | exact Or.inr (Or.inr rfl))
    (hd : (x == ("__debug__" : Str)) = false := by decide) (hcd : (x == ("__classdict__" : Str)) = false := by decide)
    (hp : ∀ t, PE X e t → PS X (.Expr (.Call (.Attribute (.Name x np) (Str.ofString "extend") apos) [e] [] cpos) pos) (tDrop (tBM X.K "list" rExtend (tVar i) (tCons t tNil))) := by
      exact fun t ht => ps_expr (pe_bm PySem.F.plainAttrs_list PySem.F.slot_list_extend PySem.F.type_list_extend mt_extend (pv _) (pa_cons ht pa_nil))) :
    SD X xw (.Expr (.Call (.Attribute (.Name x np) (Str.ofString "extend") apos) [e] [] cpos) pos) (extW false i f) := by
  refine ⟨PS.imp (hp _ h.pe) fun Dn σ H ⟨HxC, Hf, Hh, Hx, ρ, P, S, q⟩ => ?_, fun ρ k1 k2 l q => ownL_mono (fun ds q => h.mo _ _ _ _ _ (fun d q => ?_) (fun c q => l.xc _ q) q) q⟩
  · unfold extW ownL at q
    split at q
    · rename_i ds eo
      obtain ⟨a, vs, h1, h2, h3, z, r⟩ := ss_own S eo
      refine ⟨.ref a, h1, .inl ⟨rfl, vs, SqL.of (P.x a _ h2).1⟩, ?_⟩
      refine stE h.mo false P S q (fun d hd v H' Hf2 Hh' t2 p2 s2 rv => ?_) (fun c hc => hc)
      split at hd
      · rename_i es
        have rv := rv (fun z => by cases z)
        cases rv with | list e1 z1 r1 =>
        have hz : vs.length + es.length ≤ sizeLine := by rw [r.length, sizeLine_eq]; exact hd.1.2
        refine ⟨a, _, vs, _, rfl, rfl, (p2.x a _ h2).1, p2.sub _ _ e1, by rw [r1.length]; exact hz, ?_⟩
        exact hd.2 _ _ Hf2 Hh' _ t2 (p2.setX h2) (s2.mut eo h1 h3 ⟨_, rfl, by rw [List.length_append, r1.length]; exact hz, (r.mono t2).append r1⟩)
      · exact hd.elim
    · exact q.elim
  · split at q
    · exact ⟨q.1, l.nx _ q.2⟩
    · exact q.elim
end
end DL
namespace DL
open PySem PySem.Spec PyProof.Rows L2
variable [TabsC]
section
variable {X : Cx} {xw : XW}
theorem ed_gl {x : Str} {d : D} {pos : Pos} (h : ∃ u v, X.mg x = some u ∧ RelV v u ∧ ∀ Hf Hh, Rp X.K Hf Hh v d) (hg : Gl X x) (hd : (x == ("__debug__" : Str)) = false := by decide) : ED X xw (.Name x pos) (cstW d) := by
  obtain ⟨u, v, h1, h2, h3⟩ := h
  exact ed_glob hg h1 h2 h3 hd
theorem d_set (b : Bool) (i : Nat) {x : Str} {e : Expr} {f : WE} {pos pos' : Pos} (hN : X.N.Nodup) (he : ED X xw e f) (hi : X.N[i]? = some x := by rfl) (hx : Loc X.env.scope x := by first | exact .inl rfl | exact .inr rfl) (hs : swapsWith e (some (.Name x pos')) pos.line X.env = pure false := by rfl)
    (hf : X.fn x = true ∨ X.env.scope.names.lookup x = some .local := by first | exact .inl rfl | exact .inr rfl) : SD X xw (.Assign [.Name x pos'] e pos) (asgW b (.nm i) f) := sd_set b hN hi hx he hs hf
theorem d_own (b : Bool) (i : Nat) {x : Str} {e : Expr} {f : WE} {pos pos' : Pos} (hN : X.N.Nodup) (he : FD X xw e f) (hi : X.N[i]? = some x := by rfl) (hx : Loc X.env.scope x := by first | exact .inl rfl | exact .inr rfl) (hs : swapsWith e (some (.Name x pos')) pos.line X.env = pure false := by rfl)
    (hf : X.fn x = true ∨ X.env.scope.names.lookup x = some .local := by first | exact .inl rfl | exact .inr rfl) : SD X xw (.Assign [.Name x pos'] e pos) (ownW b i f) := sd_own b hN hi hx he hs hf
theorem d_par (b : Bool) (i j : Nat) {x y : Str} {a c : Expr} {f : WA} {px py pt : Pos} {kt k2 pt2} {pos : Pos} (hN : X.N.Nodup) (ha : AD X xw [a, c] f) (hc : X.calm = true := by rfl) (hi : X.N[i]? = some x := by rfl) (hj : X.N[j]? = some y := by rfl) (hij : i ≠ j := by decide)
    (hx : X.env.scope.names.lookup x = some .local := by rfl) (hy : X.env.scope.names.lookup y = some .local := by rfl)
    (hw : swappedStores [.Tuple [.Name x px, .Name y py] kt pt] (.Tuple [a, c] k2 pt2) X.env = pure (some [x, y]) := by rfl)
    (hs : swapsWithSole [.Tuple [.Name x px, .Name y py] kt pt] (.Tuple [a, c] k2 pt2) pos.line X.env = pure false := by rfl) :
    SD X xw (.Assign [.Tuple [.Name x px, .Name y py] kt pt] (.Tuple [a, c] k2 pt2) pos) (parW b i j f) :=
  sd_par b hc hN hi hj hij ha fun t ht => ps_par hc hN hi hj hij hx hy ht hw hs
end
end DL

set_option Elab.async false
set_option linter.all false
set_option maxRecDepth 100000
set_option maxHeartbeats 4000000
namespace DL
open PySem PySem.Spec PyProof.Rows L2
variable [TabsC]
/-- the inner turns: the list's size is looked at -/
def loopK (ρ : Env') (T : Tgt) (tst : WT) (elt : WE) : List D → List D → (List D → Prop) → Prop
  | [], acc, K => K acc
  | d :: ds, acc, K => match T.bs d with
    | none => False
    | some bs => tst (setE ρ bs) (fun b => if b = true then elt (setE ρ bs) (fun y => acc.length < 16777216 ∧ loopK ρ T tst elt ds (acc ++ [y]) K) (fun _ => False) else loopK ρ T tst elt ds acc K) (fun _ => False)
theorem loopK_mono {ρ : Env'} {T : Tgt} {tst : WT} {elt : WE} (mt : MonoT tst) (me : MonoE elt) : ∀ (ds acc : List D) (K1 K2 : List D → Prop), (∀ a, K1 a → K2 a) → loopK ρ T tst elt ds acc K1 → loopK ρ T tst elt ds acc K2
  | [], acc, K1, K2, hk, h => hk _ h
  | d :: ds, acc, K1, K2, hk, h => by
    rw [loopK] at h ⊢
    split at h
    · exact h.elim
    · rename_i bs e
      refine mt _ _ _ _ _ (fun b q => ?_) (fun _ h => h) h
      cases b with
      | true => exact me _ _ _ _ _ (fun y q => ⟨q.1, loopK_mono mt me ds _ K1 K2 hk q.2⟩) (fun _ h => h) q
      | false => exact loopK_mono mt me ds _ K1 K2 hk q
def loop2 (ρ : Env') (vs1 : List Nat) (T : Tgt) (tst : WT) (T1 : Tgt) (src1 : WA) (tst1 : WT) (elt : WE) : List D → List D → (List D → Prop) → Prop
  | [], acc, K => K acc
  | d :: ds, acc, K => match T.bs d with
    | none => False
    | some bs => tst (setE ρ bs) (fun b => if b = true then src1 (setE ρ bs) (fun es => loopK (wipeD (setE ρ bs) vs1) T1 tst1 elt es acc (fun acc' => loop2 ρ vs1 T tst T1 src1 tst1 elt ds acc' K)) (fun _ => False)
        else loop2 ρ vs1 T tst T1 src1 tst1 elt ds acc K) (fun _ => False)
theorem loop2_mono {ρ : Env'} {vs1 : List Nat} {T T1 : Tgt} {tst tst1 : WT} {src1 : WA} {elt : WE} (mt : MonoT tst) (ms : MonoA src1) (mt1 : MonoT tst1) (me : MonoE elt) : ∀ (ds acc : List D) (K1 K2 : List D → Prop), (∀ a, K1 a → K2 a) → loop2 ρ vs1 T tst T1 src1 tst1 elt ds acc K1 → loop2 ρ vs1 T tst T1 src1 tst1 elt ds acc K2
  | [], acc, K1, K2, hk, h => hk _ h
  | d :: ds, acc, K1, K2, hk, h => by
    rw [loop2] at h ⊢
    split at h
    · exact h.elim
    · rename_i bs e
      refine mt _ _ _ _ _ (fun b q => ?_) (fun _ h => h) h
      cases b with
      | true => exact ms _ _ _ _ _ (fun es q => loopK_mono mt1 me _ _ _ _ (fun a q => loop2_mono mt ms mt1 me ds _ K1 K2 hk q) q) (fun _ h => h) q
      | false => exact loop2_mono mt ms mt1 me ds _ K1 K2 hk q
def comp2W (vs vs1 : List Nat) (T : Tgt) (src : WA) (tst : WT) (T1 : Tgt) (src1 : WA) (tst1 : WT) (elt : WE) : WE := fun ρ K Xc => src ρ (fun ds => loop2 (wipeD ρ vs) vs1 T tst T1 src1 tst1 elt ds [] (fun acc => K (.list acc))) Xc
theorem mono_comp2 {vs vs1 : List Nat} {T T1 : Tgt} {src src1 : WA} {tst tst1 : WT} {elt : WE} (ms : MonoA src) (mt : MonoT tst) (ms1 : MonoA src1) (mt1 : MonoT tst1) (me : MonoE elt) : MonoE (comp2W vs vs1 T src tst T1 src1 tst1 elt) := fun ρ K1 K2 X1 X2 hk hx h =>
  ms _ _ _ _ _ (fun ds q => loop2_mono mt ms1 mt1 me _ _ _ _ (fun a q => hk _ q) q) hx h
theorem us_in {K : PySem.W.Frag} {Hf Hh : Hp} {T : Tgt} {d : D} {bs : List (Nat × D)} {us : List (Nat × V)} {vs : List Nat} (hT : ∀ i ∈ T.slots, i ∈ vs) (eb : T.bs d = some bs) (hu : RpB K Hf Hh us bs) : ∀ u ∈ us, u.1 ∈ vs := fun u hu' => by
  have : u.1 ∈ bs.map (·.1) := by rw [← RpB.fst hu]; exact List.mem_map_of_mem hu'
  obtain ⟨b, hb, e⟩ := List.mem_map.mp this
  exact e ▸ hT _ (bs_slots T d bs eb b hb)
/-- the list at p is taken out of the heap again -/
theorem take_out {H Hf Hh Hx : Hp} {p : Addr} {o : HO} (P : Pt H Hf Hh (upd Hx p o)) (nx : Hx p = none) : ∃ H', upd H' p o = H ∧ H' p = none ∧ Pt H' Hf Hh Hx := by
  let H' : Hp := fun b => if b = p then none else H b
  have e1 : H p = some o := (P.x p _ upd_same).1
  have out : ∀ b, b ≠ p → H' b = H b := fun b hb => by show (if b = p then none else H b) = _; rw [if_neg hb]
  have n' : H' p = none := by show (if p = p then none else H p) = none; rw [if_pos rfl]
  refine ⟨H', ?_, n', ?_⟩
  · funext b
    by_cases hb : b = p
    · subst hb; rw [upd_same, e1]
    · rw [upd_ne hb, out b hb]
  · have nf := (P.x p _ upd_same).2
    refine ⟨fun b u q => ?_, fun b u q => ?_, fun b u q => ?_, fun b u q => ?_, fun b vs => ⟨(P.nt b vs).1, fun e => by
      have hb : b ≠ p := fun z => by subst z; rw [nx] at e; cases e
      exact (P.nt b vs).2 (by rw [upd_ne hb]; exact e)⟩, fun b vs => ⟨(P.nb b vs).1, fun e => by
      have hb : b ≠ p := fun z => by subst z; rw [nx] at e; cases e
      exact (P.nb b vs).2 (by rw [upd_ne hb]; exact e)⟩, P.tb, fun b φ e => by
      have hb : b ≠ p := fun z => by subst z; rw [nx] at e; cases e
      exact P.nx b φ (by rw [upd_ne hb]; exact e)⟩
    · have hb : b ≠ p := fun z => by subst z; rw [nf.1] at q; cases q
      obtain ⟨z1, z2, z3⟩ := P.f b u q
      rw [upd_ne hb] at z3
      exact ⟨by rw [out b hb]; exact z1, z2, z3⟩
    · have hb : b ≠ p := fun z => by subst z; rw [nf.2] at q; cases q
      obtain ⟨z1, z2, z3⟩ := P.h b u q
      rw [upd_ne hb] at z3
      exact ⟨by rw [out b hb]; exact z1, z2, z3⟩
    · have hb : b ≠ p := fun z => by subst z; rw [nx] at q; cases q
      obtain ⟨z1, z2, z3⟩ := P.x b u (by rw [upd_ne hb]; exact q)
      exact ⟨by rw [out b hb]; exact z1, z2, z3⟩
    · by_cases hb : b = p
      · subst hb; rw [n'] at q; cases q
      · rw [out b hb] at q
        have := P.c b u q
        rw [upd_ne hb] at this
        exact this
theorem comp2_imp {vs vs1 : List Nat} {T T1 : Tgt} {src src1 : WA} {tst tst1 : WT} {elt : WE} {g g1 : TG} {K : PySem.W.Frag} {xw : XW} (ms : MonoA src) (mt : MonoT tst) (ms1 : MonoA src1) (mt1 : MonoT tst1) (me : MonoE elt) (hT : ∀ i ∈ T.slots, i ∈ vs) (hT1 : ∀ i ∈ T1.slots, i ∈ vs1)
    (gst : ∀ v d bs σ (H Hf Hh : Hp) (Q : St → Hp → Prop), Sub Hf H → Rp K Hf Hh v d → T.bs d = some bs → (∀ us, RpB K Hf Hh us bs → Q (setV σ us) H) → g v σ H Q)
    (gst1 : ∀ v d bs σ (H Hf Hh : Hp) (Q : St → Hp → Prop), Sub Hf H → Rp K Hf Hh v d → T1.bs d = some bs → (∀ us, RpB K Hf Hh us bs → Q (setV σ us) H) → g1 v σ H Q)
    (σ : St) (H : Hp) (Q : VK) (h : LF K xw (comp2W vs vs1 T src tst T1 src1 tst1 elt) σ H Q) : tLc2 (LI K xw src) g (LT K noX tst) (LI K noX src1) g1 (LT K noX tst1) (LE K noX elt) vs vs1 σ H Q := by
  obtain ⟨Hf, Hh, Hx, ρ, P, S, h⟩ := h
  refine ⟨Hf, Hh, Hx, ρ, P, S, ms _ _ _ _ _ (fun ds hd J H1 Hf1 Hh1 T1' P1 wk hz Dp hD => ?_) (fun c hc => hc) h⟩
  have nDx : Hx Dp = none := (P1.fresh hD).2.2
  let ρw := wipeD ρ vs
  have Sw : Sl K Hf1 Hh1 (L2.wipe σ vs) ρw := (S.mono T1').wipe vs
  let KK : List D → Prop := fun acc => Bf K Hf Hh Hx Q (.list acc)
  let W : Nat → Nat → Hp → Prop := fun i m H => m = ds.length - i ∧ i ≤ ds.length ∧ ∃ Hf2 Hh2 av acc, Tr Hf1 Hh1 Hf2 Hh2 ∧ Pt H Hf2 Hh2 (upd Hx Dp (.lst av)) ∧ RpAll K Hf2 Hh2 av acc ∧ acc.length ≤ 16777216 ∧
    loop2 ρw vs1 T tst T1 src1 tst1 elt (ds.drop i) acc KK
  refine ⟨W, ⟨ds.length, by simp, Nat.zero_le _, Hf1, Hh1, [], [], Tr.refl _ _, P1.newX hD, .nil, by simp, by simpa using hd⟩, ?_⟩
  rintro i m H2 ⟨rfl, hi, Hf2, Hh2, av, acc, T2, P2, R2, ha, lc⟩
  obtain ⟨w1, w2⟩ := wk i H2 Hf2 Hh2 _ T2 P2
  by_cases hlt : i < ds.length
  · obtain ⟨hgo, hy⟩ := w1 hlt
    refine .inr ⟨hgo, fun H' => ∃ m', m' < ds.length - i ∧ W (i + 1) m' H', fun H' h => h, fun x H3 yl => ?_⟩
    obtain ⟨Hf3, d, T3, P3, ed, R3⟩ := hy x H3 yl
    rw [drop_lt ed, loop2] at lc
    split at lc
    · exact lc.elim
    · rename_i bs eb
      refine gst x d bs _ H3 Hf3 Hh2 _ P3.sub R3 eb fun us hu => ?_
      have S3 : Sl K Hf3 Hh2 (setV (L2.wipe σ vs) us) (setE ρw bs) := (Sw.mono (T2.trans T3)).sets hu
      refine ⟨wipe_setV (us_in hT eb hu), LT.at mt P3 S3 lc (fun b hb H4 Hf4 Hh4 T4 P4 => ?_) (fun c hc => hc.elim)⟩
      cases b with
      | true =>
        refine iteT ⟨Hf4, Hh4, _, _, P4, S3.mono T4, ms1 _ _ _ _ _ (fun es he J1 H5 Hf5 Hh5 T5 P5 wk1 hz1 => ?_) (fun c hc => hc.elim) hb⟩
        let ρi := wipeD (setE ρw bs) vs1
        have S5 : Sl K Hf5 Hh5 (L2.wipe (setV (L2.wipe σ vs) us) vs1) ρi := ((S3.mono (T4.trans T5))).wipe vs1
        have T25 : Tr Hf2 Hh2 Hf5 Hh5 := T3.trans (T4.trans T5)
        let W1 : Nat → Nat → Hp → Prop := fun j k H => k = es.length - j ∧ j ≤ es.length ∧ ∃ Hf6 Hh6 av acc, Tr Hf5 Hh5 Hf6 Hh6 ∧ Pt H Hf6 Hh6 (upd Hx Dp (.lst av)) ∧ RpAll K Hf6 Hh6 av acc ∧ acc.length ≤ 16777216 ∧
          loopK ρi T1 tst1 elt (es.drop j) acc (fun acc' => loop2 ρw vs1 T tst T1 src1 tst1 elt (ds.drop (i + 1)) acc' KK)
        refine ⟨W1, ⟨es.length, by simp, Nat.zero_le _, Hf5, Hh5, av, acc, Tr.refl _ _, P5, R2.mono T25, ha, by simpa using he⟩, ?_⟩
        rintro j k H6 ⟨rfl, hj, Hf6, Hh6, av6, acc6, T6, P6, R6, ha6, lc6⟩
        obtain ⟨v1, v2⟩ := wk1 j H6 Hf6 Hh6 _ T6 P6
        by_cases hlt1 : j < es.length
        · obtain ⟨hgo1, hy1⟩ := v1 hlt1
          refine .inr ⟨hgo1, fun H' => ∃ m', m' < es.length - j ∧ W1 (j + 1) m' H', fun H' h => h, fun x1 H7 yl1 => ?_⟩
          obtain ⟨Hf7, d1, T7, P7, ed1, R7⟩ := hy1 x1 H7 yl1
          rw [drop_lt ed1, loopK] at lc6
          split at lc6
          · exact lc6.elim
          · rename_i bs1 eb1
            refine gst1 x1 d1 bs1 _ H7 Hf7 Hh6 _ P7.sub R7 eb1 fun us1 hu1 => ?_
            have S7 : Sl K Hf7 Hh6 (setV (L2.wipe (setV (L2.wipe σ vs) us) vs1) us1) (setE ρi bs1) := (S5.mono (T6.trans T7)).sets hu1
            refine ⟨wipe_setV (us_in hT1 eb1 hu1), LT.at mt1 P7 S7 lc6 (fun b1 hb1 H8 Hf8 Hh8 T8 P8 => ?_) (fun c hc => hc.elim)⟩
            cases b1 with
            | true =>
              refine iteT (LE.at me P8 (S7.mono T8) hb1 (fun y hy v9 H9 Hf9 Hh9 T9 P9 R9 => ?_) (fun c hc => hc.elim))
              have T69 : Tr Hf6 Hh6 Hf9 Hh9 := T7.trans (T8.trans T9)
              have eD : H9 Dp = some (.lst av6) := (P9.x Dp _ upd_same).1
              have lv : av6.length = acc6.length := R6.length
              refine ⟨av6, eD, by rw [sizeLine_eq, lv]; exact hy.1, es.length - (j + 1), by omega, rfl, hlt1, Hf9, Hh9, av6 ++ [v9], acc6 ++ [y], T6.trans T69, ?_, (R6.mono T69).append (.cons R9 .nil), by have := hy.1; simp; omega, hy.2⟩
              have := P9.setX (o' := .lst (av6 ++ [v9])) upd_same
              rw [upd_upd] at this
              exact this
            | false =>
              exact iteF ⟨es.length - (j + 1), by omega, rfl, hlt1, Hf8, Hh8, av6, acc6, T6.trans (T7.trans T8), P8, R6.mono (T7.trans T8), ha6, hb1⟩
        · have e : j = es.length := by omega
          subst e
          rw [List.drop_length, loopK] at lc6
          exact .inl ⟨v2 (Nat.le_refl _), ds.length - (i + 1), by omega, rfl, hlt, Hf6, Hh6, av6, acc6, T2.trans (T25.trans T6), P6, R6, ha6, lc6⟩
      | false =>
        exact iteF ⟨ds.length - (i + 1), by omega, rfl, hlt, Hf4, Hh4, av, acc, T2.trans (T3.trans T4), P4, R2.mono (T3.trans T4), ha, hb⟩
  · have e : i = ds.length := by omega
    subst e
    refine .inl ⟨w2 (Nat.le_refl _), ?_⟩
    rw [List.drop_length, loop2] at lc
    obtain ⟨H', e2, n', P'⟩ := take_out P2 nDx
    have lv : av.length = acc.length := R2.length
    have := lc Dp (.lst av) H' Hf2 Hh2 (T1'.trans T2) P' n' ⟨av, rfl, by rw [lv, sizeLine_eq]; exact ha, R2⟩
    rw [e2] at this
    exact this
section
variable {X : Cx} {xw : XW}
theorem fd_lc2 {elt tg iter tg1 iter1 : Expr} {ifs ifs1 : List Expr} {scope : Scope} {own : List (Str × Nat)} {vs1 : List Nat} {pos : Pos} {T T1 : Tgt} {g g1 : TG} {src src1 : WA} {tst tst1 : WT} {f : WE} (hc : X.calm = true) (hN : X.N.Nodup) (hi : ID X xw tg iter src) (ok : BlkOk X.N X.env.scope scope own)
    (hv : ∀ i ∈ vs1, i ∈ own.map (·.2)) (hT : ∀ i ∈ T.slots, i ∈ own.map (·.2)) (hT1 : ∀ i ∈ T1.slots, i ∈ vs1)
    (hg : ∀ (s : Shared) (H : Hp) (C : Addr) (cl : List (Str × Addr)) (fp : List Addr), GD (X.blk s H scope (compEnvC scope cl C X.env) fp) tg T g) (ht : ∀ (s : Shared) (H : Hp) (C : Addr) (cl : List (Str × Addr)) (fp : List Addr), TsD (X.blk s H scope (compEnvC scope cl C X.env) fp) noX ifs tst)
    (hi1 : ∀ (s : Shared) (H : Hp) (C : Addr) (cl : List (Str × Addr)) (fp : List Addr), ID (X.blk s H scope (compEnvC scope cl C X.env) fp) noX tg1 iter1 src1)
    (hg1 : ∀ (s : Shared) (H : Hp) (C : Addr) (cl : List (Str × Addr)) (fp : List Addr), GD (X.blk s H scope (compEnvC scope cl C X.env) fp) tg1 T1 g1) (ht1 : ∀ (s : Shared) (H : Hp) (C : Addr) (cl : List (Str × Addr)) (fp : List Addr), TsD (X.blk s H scope (compEnvC scope cl C X.env) fp) noX ifs1 tst1)
    (he : ∀ (s : Shared) (H : Hp) (C : Addr) (cl : List (Str × Addr)) (fp : List Addr), ED (X.blk s H scope (compEnvC scope cl C X.env) fp) noX elt f) (hs : ∀ x, foldedSetIterable iter X.env x = pure x := by intro _; rfl) (hs1 : ∀ env x, foldedSetIterable iter1 env x = pure x := by intro _ _; rfl) :
    FD X xw (.ListComp elt [⟨tg, iter, ifs, 0⟩, ⟨tg1, iter1, ifs1, 0⟩] scope pos) (comp2W (own.map (·.2)) vs1 T src tst T1 src1 tst1 f) := by
  refine ⟨PE.imp (pe_lc2 (tt := LT X.K noX tst) (wi1 := LI X.K noX src1) (tt1 := LT X.K noX tst1) (te := LE X.K noX f) hc hN hi.pi ok hv (fun s H C cl fp => (hg s H C cl fp).pg) (fun s H C cl fp => (ht s H C cl fp).pt) (fun s H C cl fp => (hi1 s H C cl fp).pi)
      (fun s H C cl fp => (hg1 s H C cl fp).pg) (fun s H C cl fp => (ht1 s H C cl fp).pt) (fun s H C cl fp => (he s H C cl fp).pe) hs hs1) fun σ H Q h => ?_, ?_⟩
  · exact comp2_imp hi.mo (ht X.s_0 (fun _ => none) 0 [] []).mo (hi1 X.s_0 (fun _ => none) 0 [] []).mo (ht1 X.s_0 (fun _ => none) 0 [] []).mo (he X.s_0 (fun _ => none) 0 [] []).mo hT hT1 (hg X.s_0 (fun _ => none) 0 [] []).st (hg1 X.s_0 (fun _ => none) 0 [] []).st σ H Q h
  · exact mono_comp2 hi.mo (ht X.s_0 (fun _ => none) 0 [] []).mo (hi1 X.s_0 (fun _ => none) 0 [] []).mo (ht1 X.s_0 (fun _ => none) 0 [] []).mo (he X.s_0 (fun _ => none) 0 [] []).mo
/-- name = [.. for ..] (one line): plain data -/
theorem asg_imp {b : Bool} {i : Nat} {f : WE} {K : PySem.W.Frag} (m : MonoE f) (Dn : Ends) (σ : St) (H : Hp) (q : LS K xw (asgW b (.nm i) f) Dn σ H) : LE K xw f σ H (fun x H1 => gName i x σ H1 Dn.nx) := by
  obtain ⟨HxC, Hf, Hh, Hx, ρ, P, S, q⟩ := q
  refine stE m b P S q (fun d hd v H' Hf2 Hh' t2 p2 s2 r => ?_) (fun c hc => hc)
  exact set_go (T := .nm i) (g := gName i) (H := H) (fun v d bs σ H Hf Hh Q s r e k => by cases e; exact k [(i, v)] (.cons ⟨rfl, r⟩ .nil)) hd t2 p2 s2 r
theorem LF.of_le {K : PySem.W.Frag} {f : WE} (m : MonoE f) {σ : St} {H : Hp} {Q : VK} (h : LE K xw f σ H Q) : LF K xw f σ H Q := by
  obtain ⟨Hf, Hh, Hx, ρ, P, S, q⟩ := h
  exact ⟨Hf, Hh, Hx, ρ, P, S, m _ _ _ _ _ (fun d b => b.bf) (fun c h => h) q⟩
theorem d_setLc (b : Bool) (i : Nat) {y : Str} {py : Pos} {elt tg iter : Expr} {ifs : List Expr} {scope : Scope} {own : List (Str × Nat)} {pos spos : Pos} {T : Tgt} {g : TG} {src : WA} {tst : WT} {f : WE} (hc : X.calm = true) (hN : X.N.Nodup) (hi : ID X xw tg iter src) (ok : BlkOk X.N X.env.scope scope own)
    (hT : ∀ i ∈ T.slots, i ∈ own.map (·.2))
    (hg : ∀ (s : Shared) (H : Hp) (C : Addr) (cl : List (Str × Addr)) (fp : List Addr), GD (X.blk s H scope (compEnvC scope cl C X.env) fp) tg T g) (ht : ∀ (s : Shared) (H : Hp) (C : Addr) (cl : List (Str × Addr)) (fp : List Addr), TsD (X.blk s H scope (compEnvC scope cl C X.env) fp) noX ifs tst)
    (he : ∀ (s : Shared) (H : Hp) (C : Addr) (cl : List (Str × Addr)) (fp : List Addr), ED (X.blk s H scope (compEnvC scope cl C X.env) fp) noX elt f) (hs : ∀ x, foldedSetIterable iter X.env x = pure x := by intro _; rfl)
    (hy : X.N[i]? = some y := by rfl) (hyl : X.env.scope.names.lookup y = some .local := by rfl) (hsw : swapsWith (.ListComp elt [⟨tg, iter, ifs, 0⟩] scope pos) (some (.Name y py)) spos.line X.env = pure true := by exact sw_true rfl rfl rfl (by decide +kernel)) :
    SD X xw (.Assign [.Name y py] (.ListComp elt [⟨tg, iter, ifs, 0⟩] scope pos) spos) (asgW b (.nm i) (compW (own.map (·.2)) T src tst f)) := by
  have mt := (ht X.s_0 (fun _ => none) 0 [] []).mo
  have me := (he X.s_0 (fun _ => none) 0 [] []).mo
  have m := mono_comp (vs := own.map (·.2)) (T := T) hi.mo mt me
  refine ⟨PS.imp (ps_setLc (tt := LT X.K noX tst) (te := LE X.K noX f) hc hN hy hyl hsw hi.pi ok (fun s H C cl fp => (hg s H C cl fp).pg) (fun s H C cl fp => (ht s H C cl fp).pt) (fun s H C cl fp => (he s H C cl fp).pe) hs) fun Dn σ H q => ?_, mono_asg m⟩
  exact comp_imp hi.mo mt me hT (hg X.s_0 (fun _ => none) 0 [] []).st σ H _ (LF.of_le m (asg_imp m Dn σ H q))
theorem d_ownLc (b : Bool) (i : Nat) {y : Str} {py : Pos} {elt tg iter : Expr} {ifs : List Expr} {scope : Scope} {own : List (Str × Nat)} {pos spos : Pos} {T : Tgt} {g : TG} {src : WA} {tst : WT} {f : WE} (hc : X.calm = true) (hN : X.N.Nodup) (hi : ID X xw tg iter src) (ok : BlkOk X.N X.env.scope scope own)
    (hT : ∀ i ∈ T.slots, i ∈ own.map (·.2))
    (hg : ∀ (s : Shared) (H : Hp) (C : Addr) (cl : List (Str × Addr)) (fp : List Addr), GD (X.blk s H scope (compEnvC scope cl C X.env) fp) tg T g) (ht : ∀ (s : Shared) (H : Hp) (C : Addr) (cl : List (Str × Addr)) (fp : List Addr), TsD (X.blk s H scope (compEnvC scope cl C X.env) fp) noX ifs tst)
    (he : ∀ (s : Shared) (H : Hp) (C : Addr) (cl : List (Str × Addr)) (fp : List Addr), ED (X.blk s H scope (compEnvC scope cl C X.env) fp) noX elt f) (hs : ∀ x, foldedSetIterable iter X.env x = pure x := by intro _; rfl)
    (hy : X.N[i]? = some y := by rfl) (hyl : X.env.scope.names.lookup y = some .local := by rfl) (hsw : swapsWith (.ListComp elt [⟨tg, iter, ifs, 0⟩] scope pos) (some (.Name y py)) spos.line X.env = pure true := by exact sw_true rfl rfl rfl (by decide +kernel)) :
    SD X xw (.Assign [.Name y py] (.ListComp elt [⟨tg, iter, ifs, 0⟩] scope pos) spos) (ownW b i (compW (own.map (·.2)) T src tst f)) := sd_setLc b hc hN hy hyl hsw hi ok hT hg ht he hs
theorem d_setLc2 (b : Bool) (i : Nat) {y : Str} {py : Pos} {elt tg iter tg1 iter1 : Expr} {ifs ifs1 : List Expr} {scope : Scope} {own : List (Str × Nat)} {vs1 : List Nat} {pos spos : Pos} {T T1 : Tgt} {g g1 : TG} {src src1 : WA} {tst tst1 : WT} {f : WE} (hc : X.calm = true) (hN : X.N.Nodup) (hi : ID X xw tg iter src) (ok : BlkOk X.N X.env.scope scope own)
    (hv : ∀ i ∈ vs1, i ∈ own.map (·.2)) (hT : ∀ i ∈ T.slots, i ∈ own.map (·.2)) (hT1 : ∀ i ∈ T1.slots, i ∈ vs1)
    (hg : ∀ (s : Shared) (H : Hp) (C : Addr) (cl : List (Str × Addr)) (fp : List Addr), GD (X.blk s H scope (compEnvC scope cl C X.env) fp) tg T g) (ht : ∀ (s : Shared) (H : Hp) (C : Addr) (cl : List (Str × Addr)) (fp : List Addr), TsD (X.blk s H scope (compEnvC scope cl C X.env) fp) noX ifs tst)
    (hi1 : ∀ (s : Shared) (H : Hp) (C : Addr) (cl : List (Str × Addr)) (fp : List Addr), ID (X.blk s H scope (compEnvC scope cl C X.env) fp) noX tg1 iter1 src1)
    (hg1 : ∀ (s : Shared) (H : Hp) (C : Addr) (cl : List (Str × Addr)) (fp : List Addr), GD (X.blk s H scope (compEnvC scope cl C X.env) fp) tg1 T1 g1) (ht1 : ∀ (s : Shared) (H : Hp) (C : Addr) (cl : List (Str × Addr)) (fp : List Addr), TsD (X.blk s H scope (compEnvC scope cl C X.env) fp) noX ifs1 tst1)
    (he : ∀ (s : Shared) (H : Hp) (C : Addr) (cl : List (Str × Addr)) (fp : List Addr), ED (X.blk s H scope (compEnvC scope cl C X.env) fp) noX elt f) (hs : ∀ x, foldedSetIterable iter X.env x = pure x := by intro _; rfl) (hs1 : ∀ env x, foldedSetIterable iter1 env x = pure x := by intro _ _; rfl)
    (hy : X.N[i]? = some y := by rfl) (hyl : X.env.scope.names.lookup y = some .local := by rfl) (hsw : swapsWith (.ListComp elt [⟨tg, iter, ifs, 0⟩, ⟨tg1, iter1, ifs1, 0⟩] scope pos) (some (.Name y py)) spos.line X.env = pure true := by exact sw_true rfl rfl rfl (by decide +kernel)) :
    SD X xw (.Assign [.Name y py] (.ListComp elt [⟨tg, iter, ifs, 0⟩, ⟨tg1, iter1, ifs1, 0⟩] scope pos) spos) (asgW b (.nm i) (comp2W (own.map (·.2)) vs1 T src tst T1 src1 tst1 f)) := by
  have mt := (ht X.s_0 (fun _ => none) 0 [] []).mo
  have mt1 := (ht1 X.s_0 (fun _ => none) 0 [] []).mo
  have ms1 := (hi1 X.s_0 (fun _ => none) 0 [] []).mo
  have me := (he X.s_0 (fun _ => none) 0 [] []).mo
  have m := mono_comp2 (vs := own.map (·.2)) (vs1 := vs1) (T := T) (T1 := T1) hi.mo mt ms1 mt1 me
  refine ⟨PS.imp (ps_setLc2 (tt := LT X.K noX tst) (wi1 := LI X.K noX src1) (tt1 := LT X.K noX tst1) (te := LE X.K noX f) hc hN hy hyl hsw hi.pi ok hv (fun s H C cl fp => (hg s H C cl fp).pg) (fun s H C cl fp => (ht s H C cl fp).pt) (fun s H C cl fp => (hi1 s H C cl fp).pi)
      (fun s H C cl fp => (hg1 s H C cl fp).pg) (fun s H C cl fp => (ht1 s H C cl fp).pt) (fun s H C cl fp => (he s H C cl fp).pe) hs hs1) fun Dn σ H q => ?_, mono_asg m⟩
  exact comp2_imp hi.mo mt ms1 mt1 me hT hT1 (hg X.s_0 (fun _ => none) 0 [] []).st (hg1 X.s_0 (fun _ => none) 0 [] []).st σ H _ (LF.of_le m (asg_imp m Dn σ H q))
end
end DL

set_option Elab.async false
set_option linter.all false
set_option maxRecDepth 100000
set_option maxHeartbeats 4000000
namespace DL
open PySem PySem.Spec PyProof.Rows L2
variable [TabsC]
abbrev encT (kvs : List (List Key × D)) : D := .dict true (kvs.map fun p => (.tuple (p.1.map D.ofKey), p.2))
abbrev encK (kvs : List (Key × D)) : D := .dict false (kvs.map fun p => (D.ofKey p.1, p.2))
def valD {κ β : Type} [DecidableEq κ] (kvs : List (κ × β)) (k : κ) : Option β := (kvs.find? fun kv => decide (kv.1 = k)).map (·.2)
def putD {κ β : Type} [DecidableEq κ] (kvs : List (κ × β)) (k : κ) (v : β) : List (κ × β) :=
  if (kvs.any fun kv => decide (kv.1 = k)) = true then kvs.map (fun kv => if kv.1 = k then (kv.1, v) else kv) else kvs ++ [(k, v)]
theorem ofKey_inj {a b : Key} (h : D.ofKey a = D.ofKey b) : a = b := by
  cases a <;> cases b <;> simp [D.ofKey] at h <;> simp [h]
theorem ofKeys_inj : ∀ {a b : List Key}, a.map D.ofKey = b.map D.ofKey → a = b
  | [], [], _ => rfl
  | x :: a, y :: b, h => by
    simp only [List.map_cons, List.cons.injEq] at h
    rw [ofKey_inj h.1, ofKeys_inj h.2]
  | [], _ :: _, h => by simp at h
  | _ :: _, [], h => by simp at h
theorem keysT {kvs : List (List Key × D)} {ws : List (List Key × V)} (h : (kvs.map fun p => (D.tuple (p.1.map D.ofKey), p.2)).map (·.1) = ws.map (fun p => D.tuple (p.1.map D.ofKey))) : kvs.map (·.1) = ws.map (·.1) := by
  induction kvs generalizing ws with
  | nil => cases ws with
    | nil => rfl
    | cons _ _ => simp at h
  | cons p kvs ih => cases ws with
    | nil => simp at h
    | cons q ws =>
      simp only [List.map_cons, List.cons.injEq, D.tuple.injEq] at h ⊢
      exact ⟨ofKeys_inj h.1, ih (by simpa using h.2)⟩
theorem keysK {kvs : List (Key × D)} {ws : List (Key × V)} (h : (kvs.map fun p => (D.ofKey p.1, p.2)).map (·.1) = ws.map (fun p => D.ofKey p.1)) : kvs.map (·.1) = ws.map (·.1) := by
  induction kvs generalizing ws with
  | nil => cases ws with
    | nil => rfl
    | cons _ _ => simp at h
  | cons p kvs ih => cases ws with
    | nil => simp at h
    | cons q ws =>
      simp only [List.map_cons, List.cons.injEq] at h ⊢
      exact ⟨ofKey_inj h.1, ih (by simpa using h.2)⟩
section
variable {κ : Type} [DecidableEq κ] {K : PySem.W.Frag} {Hf Hh : Hp}
theorem val_rel {k : κ} : ∀ {kvs : List (κ × D)} {ws : List (κ × V)}, kvs.map (·.1) = ws.map (·.1) → RpAll K Hf Hh (ws.map (·.2)) (kvs.map (·.2)) →
    (∀ d, valD kvs k = some d → ∃ v, valV ws k = some v ∧ Rp K Hf Hh v d) ∧ (valD kvs k = none → valV ws k = none)
  | [], [], _, _ => ⟨fun d e => by simp [valD] at e, fun _ => rfl⟩
  | p :: kvs, q :: ws, h, r => by
    simp only [List.map_cons, List.cons.injEq] at h r
    cases r with
    | cons r1 r2 =>
      have ih := val_rel (k := k) h.2 r2
      by_cases e : p.1 = k
      · have e2 : q.1 = k := h.1.symm.trans e
        refine ⟨fun d ed => ⟨q.2, valV_pos e2, ?_⟩, fun ed => ?_⟩
        · simp [valD, List.find?_cons, e] at ed; subst ed; exact r1
        · simp [valD, List.find?_cons, e] at ed
      · have e2 : ¬ q.1 = k := fun z => e (h.1.trans z)
        have ev : valD (p :: kvs) k = valD kvs k := by simp [valD, List.find?_cons, e]
        rw [ev, valV_neg e2]
        exact ih
  | [], _ :: _, h, _ => by simp at h
  | _ :: _, [], h, _ => by simp at h
theorem put_rel {k : κ} {v : V} {d : D} {kvs : List (κ × D)} {ws : List (κ × V)} (h : kvs.map (·.1) = ws.map (·.1)) (r : RpAll K Hf Hh (ws.map (·.2)) (kvs.map (·.2))) (rv : Rp K Hf Hh v d) :
    (putD kvs k d).map (·.1) = (putK ws k v).map (·.1) ∧ RpAll K Hf Hh ((putK ws k v).map (·.2)) ((putD kvs k d).map (·.2)) := by
  have ea : (kvs.any fun kv => decide (kv.1 = k)) = ws.any fun kv => decide (kv.1 = k) := by
    have e1 : (kvs.any fun kv => decide (kv.1 = k)) = (kvs.map (·.1)).any fun x => decide (x = k) := by rw [List.any_map]; rfl
    have e2 : (ws.any fun kv => decide (kv.1 = k)) = (ws.map (·.1)).any fun x => decide (x = k) := by rw [List.any_map]; rfl
    rw [e1, e2, h]
  unfold putD putK
  rw [ea]
  by_cases q : (ws.any fun kv => decide (kv.1 = k)) = true
  · rw [if_pos q, if_pos q]
    clear q ea
    induction kvs generalizing ws with
    | nil => cases ws with
      | nil => exact ⟨rfl, .nil⟩
      | cons _ _ => simp at h
    | cons p kvs ih => cases ws with
      | nil => simp at h
      | cons s ws =>
        simp only [List.map_cons, List.cons.injEq] at h r ⊢
        cases r with
        | cons r1 r2 =>
          obtain ⟨i1, i2⟩ := ih h.2 r2
          by_cases e : p.1 = k
          · have e2 : s.1 = k := h.1.symm.trans e
            rw [if_pos e, if_pos e2]
            exact ⟨⟨h.1, i1⟩, .cons rv i2⟩
          · have e2 : ¬ s.1 = k := fun z => e (h.1.trans z)
            rw [if_neg e, if_neg e2]
            exact ⟨⟨h.1, i1⟩, .cons r1 i2⟩
  · rw [if_neg q, if_neg q]
    rw [List.map_append, List.map_append, List.map_append, List.map_append, h]
    exact ⟨rfl, r.append (.cons rv .nil)⟩
end
theorem key_ofS {X : Cx} {pins : List (Addr × Obj)} {σ : St} {H : Hp} {s : Shared} {b : Addr} {ks : List Key} (I : Inv X pins σ H s) (e : SqT X.K H b (ks.map kV)) : (tupleKind (mixKind X.prog X.w)).is s.heap ks b := by
  obtain ⟨its, r, ⟨o, h1, h2, n, h3⟩, _⟩ := I.tuple e
  exact ⟨o, its.toArray, n, h1, h2, h3, by simpa using items_are r⟩
def DGetS (K : PySem.W.Frag) (H : Hp) (a : Addr) (y : V) (r : Option V) : Prop :=
  (∃ kvs k, H a = some (.dK kvs) ∧ y = kV k ∧ r = valV kvs k) ∨ ∃ kvs k b, H a = some (.dT kvs) ∧ y = .ref b ∧ SqT K H b (k.map kV) ∧ r = valV kvs k
section
variable {X : Cx} {xw : XW}
def rGetS (K : PySem.W.Frag) : V → List V → Hp → VK → Prop := fun x xs H Q => ∃ a y z o, x = .ref a ∧ xs = [y, z] ∧ DGetS K H a y o ∧ Q (o.getD z) H
theorem vals_2 {x y : V} {us : List Value} (r : Vals [x, y] us) : ∃ u w, us = [u, w] ∧ RelV x u ∧ RelV y w := by
  cases r with | cons a b => cases b with | cons c d => cases d; exact ⟨_, _, rfl, a, c⟩
theorem mt_getS (hu : X.A.units + 1 < cLine) : MtR X "dict.get" (rGetS X.K) := by
  intro pins s σ H x xs v us Q I rx rxs h
  obtain ⟨a, y, z, o, rfl, rfl, g, q⟩ := h
  cases rx
  obtain ⟨u, w, rfl, ry, rz⟩ := vals_2 rxs
  rcases g with ⟨kvs, k, e, ey, l⟩ | ⟨kvs, k, b, e, ey, eb, l⟩
  · subst ey
    obtain ⟨_, hd, vs, rel, dd⟩ := dk_rd I.hok (.inl e)
    refine call_meetsIn PySem.F.slot_dict_get dd.typeIs PySem.F.entry_dict_get (PySem.F.args_dict_get_3 _ _ _) (meets_dict_get_default (mixKind X.prog X.w) a (kV_is ry) hd w) ⟨_, dd.mapOf, _, H, I.tok _, ?_, q⟩
    rw [l]
    exact (rel.val k).getD rz
  · subst ey
    cases (show u = Value.ref b from ry)
    obtain ⟨_, hd, xs, rel, dd⟩ := dt_rd I.hok (.inl e)
    refine call_meetsIn PySem.F.slot_dict_get dd.typeIs PySem.F.entry_dict_get (PySem.F.args_dict_get_3 _ _ _) (meetsH_dict_get_default (tupleKind (mixKind X.prog X.w)) a b hd w) ⟨tupleKind_room_in1 hu, k, xs, key_ofS I eb, dd, _, H, I.tok _, ?_, q⟩
    rw [l]
    exact (rel.val k).getD rz
def rIxD (K : PySem.W.Frag) : R2 := fun x y H Q => ∃ a v, x = .ref a ∧ DGetS K H a y (some v) ∧ Q v H
theorem ix_dictS (hu : X.A.units + 1 < cLine) : IxR X (rIxD X.K) := by
  intro value slice pins s σ H x y v u Q I rx ry h hs
  obtain ⟨a, z, rfl, g, q⟩ := h
  cases rx
  have hT : s.TypeIs (.ref a) "dict" := by
    rcases g with ⟨kvs, k, e, _⟩ | ⟨kvs, k, b, e, _⟩
    · obtain ⟨_, hd, vs, rel, dd⟩ := dk_rd I.hok (.inl e); exact dd.typeIs
    · obtain ⟨_, hd, vs, rel, dd⟩ := dt_rd I.hok (.inl e); exact dd.typeIs
  have hg : wpAny (model X.prog X.w) X.A (getItem (.ref a) u) (EP X pins σ Q) X.xe s := by
    rcases g with ⟨kvs, k, e, ey, l⟩ | ⟨kvs, k, b, e, ey, eb, l⟩
    · subst ey
      obtain ⟨_, hd, vs, rel, dd⟩ := dk_rd I.hok (.inl e)
      obtain ⟨w', hw, rw'⟩ := RelO.some_of (v := z) (o := valueAt vs k) (by rw [l]; exact rel.val k)
      exact wpAny_getItem_of (kV_is ry) dd.mapOf hw ⟨z, H, I.tok _, rw', q⟩
    · subst ey
      cases (show u = Value.ref b from ry)
      obtain ⟨_, hd, xs, rel, dd⟩ := dt_rd I.hok (.inl e)
      obtain ⟨w', hw, rw'⟩ := RelO.some_of (v := z) (o := (atKey xs k).map (·.2)) (by rw [l]; exact rel.val k)
      obtain ⟨p, hp, hp2⟩ := Option.map_eq_some_iff.mp hw
      refine wpAny_getItem_heap (tupleKind_room_in1 hu) (key_ofS I eb) dd hp ?_
      rw [hp2]
      exact ⟨z, H, I.tok _, rw', q⟩
  unfold subscriptTail
  refine wpAny_bind ?_
  rw [getitemInPython_of_ne hT.not_modules]
  refine wpAny_bind (wpAny_specialOf hT PySem.F.slot_dict_getitem.lookup ?_)
  have fin : wpAny (model X.prog X.w) X.A (subscripted slice false (.ref a) u) (fun r s₃ => wpAny (model X.prog X.w) X.A (letTemporaryGo value (.ref a) r >>= fun _ => pure r) (EP X pins σ Q) X.xe s₃) X.xe s := by
    rw [hs]
    exact wpAny_operating (wpAny_mono hg (fun r s₃ h₃ => wpAny_bind (wpAny_letTemporaryGo (wpAny_pure h₃))) fun _ _ x => x)
  first
    | exact wpAny_pure (wpAny_bind fin)
    | exact wpAny_bind (wpAny_pure (wpAny_bind fin))
    | exact wpAny_bind fin
/-- what is read of a dict at a key -/
def dgetP (d k : D) (R : Option D → Prop) : Prop :=
  (∃ kvs ks, d = encT kvs ∧ k = .tuple (ks.map D.ofKey) ∧ R (valD kvs ks)) ∨ ∃ kvs k', d = encK kvs ∧ k = D.ofKey k' ∧ R (valD kvs k')
theorem dgetP.mono {d k : D} {R1 R2 : Option D → Prop} (h : dgetP d k R1) (m : ∀ o, R1 o → R2 o) : dgetP d k R2 := by
  rcases h with ⟨a, b, c, e, r⟩ | ⟨a, b, c, e, r⟩
  · exact .inl ⟨a, b, c, e, m _ r⟩
  · exact .inr ⟨a, b, c, e, m _ r⟩
theorem Rp.ofKey {K : PySem.W.Frag} {Hf Hh : Hp} {v : V} {k : Key} (r : Rp K Hf Hh v (D.ofKey k)) : v = kV k := by
  cases k with
  | inl i => cases r; rfl
  | inr x => cases r; rfl
theorem RpAll.ofKeys {K : PySem.W.Frag} {Hf Hh : Hp} : ∀ {ks : List Key} {vs : List V}, RpAll K Hf Hh vs (ks.map D.ofKey) → vs = ks.map kV
  | [], _, .nil => rfl
  | k :: ks, _, .cons a r => by rw [a.ofKey, RpAll.ofKeys r]; rfl
theorem dget_go {K : PySem.W.Frag} {H Hf Hh : Hp} {v u : V} {d k : D} {R : Option D → Prop} (s : Sub Hf H) (rd : Rp K Hf Hh v d) (rk : Rp K Hf Hh u k) (h : dgetP d k R) :
    ∃ a o od, v = .ref a ∧ DGetS K H a u o ∧ R od ∧ (∀ x, od = some x → ∃ z, o = some z ∧ Rp K Hf Hh z x) ∧ (od = none → o = none) := by
  rcases h with ⟨kvs, ks, rfl, rfl, r⟩ | ⟨kvs, k', rfl, rfl, r⟩
  · cases rd with | dT e z q =>
    cases rk with | tuple e2 z2 q2 =>
    have := q2.ofKeys; subst this
    obtain ⟨g1, g2⟩ := val_rel (k := ks) (keysT z) (by rw [List.map_map] at q; exact q)
    exact ⟨_, _, _, rfl, .inr ⟨_, _, _, s _ _ e, rfl, SqT.sub e2 s, rfl⟩, r, g1, g2⟩
  · cases rd with | dK e z q =>
    have := rk.ofKey; subst this
    obtain ⟨g1, g2⟩ := val_rel (k := k') (keysK z) (by rw [List.map_map] at q; exact q)
    exact ⟨_, _, _, rfl, .inl ⟨_, _, s _ _ e, rfl, rfl⟩, r, g1, g2⟩
/-- d[k], d a list, tuple, text or dict -/
def ixuW : W2 := fun x y K => match x with
  | .dict _ _ => dgetP x y (fun o => match o with
    | some d => K d
    | none => False)
  | _ => ixW x y K
theorem ixuW_mono : Mono2 ixuW := fun x y K1 K2 hk h => by
  unfold ixuW at h ⊢
  split at h
  · refine h.mono fun o q => ?_
    cases o with
    | some d => exact hk _ q
    | none => exact q.elim
  · exact ixW_mono _ _ _ _ hk h
theorem ixru (hu : X.A.units + 1 < cLine) : IxR X (L2r X.K ixuW) := by
  refine IxR.imp (IxR.or ixr (ix_dictS hu)) fun x y H Q ⟨Hf, Hh, Hx, dx, dy, P, rx, ry, h⟩ => ?_
  unfold ixuW at h
  split at h
  · right
    obtain ⟨a, o, od, rfl, g, r, g1, g2⟩ := dget_go P.sub rx ry h
    cases od with
    | none => exact r.elim
    | some d =>
      obtain ⟨z, rfl, rz⟩ := g1 d rfl
      exact ⟨a, z, rfl, g, r.now P rz⟩
  · exact .inl ⟨Hf, Hh, Hx, dx, dy, P, rx, ry, h⟩
theorem ed_ixu {a b : Expr} {fa fb : WE} {pos : Pos} (hu : X.A.units + 1 < cLine) (ha : ED X xw a fa) (hb : ED X xw b fb) (hs : PlainIx b) : ED X xw (.Subscript a b pos) (binW ixuW fa fb) :=
  ⟨PE.imp (pe_ix (ixru hu) ha.pe hb.pe hs) (bin_imp ixuW_mono ha hb), mono_bin ixuW_mono ha.mo hb.mo⟩
def D.isDict : D → Bool
  | .dict _ _ => true
  | _ => false
/-- d.get(k, z) -/
def getW (fo : WE) (fa : WA) : WE := fun ρ K Xc => fo ρ (fun d => d.isDict = true ∧ fa ρ (fun ds => match ds with
  | [k, z] => dgetP d k (fun o => K (o.getD z))
  | _ => False) Xc) Xc
theorem mono_get {fo : WE} {fa : WA} (mo : MonoE fo) (ma : MonoA fa) : MonoE (getW fo fa) := fun ρ K1 K2 X1 X2 hk hx h => mo _ _ _ _ _ (fun d q => ⟨q.1, ma _ _ _ _ _ (fun ds q => by
  split at q
  · exact q.mono fun o q => hk _ q
  · exact q.elim) hx q.2⟩) hx h
theorem Rp.tyD {K : PySem.W.Frag} {H Hf Hh : Hp} {v : V} {d : D} (s : Sub Hf H) (r : Rp K Hf Hh v d) (h : d.isDict = true) : tyV K "dict" v H := by
  cases r with
  | dK e _ _ => exact .inr (.inr (.inl ⟨rfl, .inl ⟨_, s _ _ e⟩⟩))
  | dT e _ _ => exact .inr (.inr (.inl ⟨rfl, .inr ⟨_, s _ _ e⟩⟩))
  | _ => cases h
theorem ed_get {o e e2 : Expr} {fo : WE} {fa : WA} {apos cpos : Pos} (hu : X.A.units + 1 < cLine) (ho : ED X xw o fo) (ha : AD X xw [e, e2] fa)
    (hp : ∀ t ta, PE X o t → PA X [e, e2] ta → PE X (.Call (.Attribute o (Str.ofString "get") apos) [e, e2] [] cpos) (tBM X.K "dict" (rGetS X.K) t ta)) :
    ED X xw (.Call (.Attribute o (Str.ofString "get") apos) [e, e2] [] cpos) (getW fo fa) := by
  refine ⟨PE.imp (hp _ _ ho.pe ha.pa) fun σ H Q ⟨Hf, Hh, Hx, ρ, P, S, q⟩ => ?_, mono_get ho.mo ha.mo⟩
  refine LE.at ho.mo P S q (fun d hd v H1 Hf1 Hh1 T1 P1 R1 => ?_) (fun c hc => hc)
  refine ⟨R1.tyD P1.sub hd.1, ?_⟩
  refine LA.at ha.mo P1 (S.mono T1) hd.2 (fun ds h2 vs H2 Hf2 Hh2 T2 P2 R2 => ?_) (fun c hc => hc.tr T1)
  split at h2
  · obtain ⟨u, z, rfl, r1, r2⟩ := R2.two
    obtain ⟨a, o, od, rfl, g, r, g1, g2⟩ := dget_go P2.sub (R1.mono T2) r1 h2
    refine ⟨a, u, z, o, rfl, rfl, g, ?_⟩
    cases od with
    | none => rw [g2 rfl]; exact (r.tr (T1.trans T2)).now P2 r2
    | some d => obtain ⟨w, rfl, rw'⟩ := g1 d rfl; exact (r.tr (T1.trans T2)).now P2 rw'
  · exact h2.elim
/-- {} -/
theorem fd_dT {pos : Pos} : FD X xw (.Dict [] [] pos) (cstW (encT [])) :=
  ⟨PE.imp pe_dnewT fun σ H Q ⟨Hf, Hh, Hx, ρ, P, S, q⟩ => fun p hp => q p _ H Hf Hh (Tr.refl _ _) P hp ⟨[], rfl, rfl, .nil⟩, fun _ _ _ _ _ hk _ h => hk _ h⟩
theorem fd_dK {pos : Pos} : FD X xw (.Dict [] [] pos) (cstW (encK [])) :=
  ⟨PE.imp pe_dnewK fun σ H Q ⟨Hf, Hh, Hx, ρ, P, S, q⟩ => fun p hp => q p _ H Hf Hh (Tr.refl _ _) P hp ⟨[], rfl, rfl, .nil⟩, fun _ _ _ _ _ hk _ h => hk _ h⟩
/-- x[k] = e, x an owned dict, k a tracked tuple's name, or an int's or text's -/
def putW (b : Bool) (i j : Nat) (f : WE) : WS := fun ρ k => f (view b ρ) (fun d => (b = true → d.flat = true) ∧
  ((∃ kvs ks, ρ[i]? = some (some (.own (encT kvs))) ∧ ρ[j]? = some (some (.trk (ks.map D.ofKey))) ∧ kvs.length < 16777216 ∧ k.nx (ρ.set i (some (.own (encT (putD kvs ks d)))))) ∨
   (∃ kvs k', ρ[i]? = some (some (.own (encK kvs))) ∧ ρ[j]? = some (some (.fz (D.ofKey k'))) ∧ kvs.length < 16777216 ∧ k.nx (ρ.set i (some (.own (encK (putD kvs k' d)))))))) k.xc
theorem sd_dput {i j : Nat} {x y : Str} {e : Expr} {f : WE} {np yp pos' pos : Pos} (b : Bool) (hu : X.A.units + 1 < cLine) (h : ED X xw e f)
    (hp : ∀ t, PE X e t → PS X (.Assign [.Subscript (.Name x np) (.Name y yp) pos'] e pos) (sDPut (tVar i) (tVar j) t)) :
    SD X xw (.Assign [.Subscript (.Name x np) (.Name y yp) pos'] e pos) (putW b i j f) := by
  refine ⟨PS.imp (hp _ h.pe) fun Dn σ H ⟨HxC, Hf, Hh, Hx, ρ, P, S, q⟩ => ?_, fun ρ k1 k2 l q => h.mo _ _ _ _ _ (fun d q => ⟨q.1, q.2.imp (fun ⟨a, b, c, d, e, g⟩ => ⟨a, b, c, d, e, l.nx _ g⟩) (fun ⟨a, b, c, d, e, g⟩ => ⟨a, b, c, d, e, l.nx _ g⟩)⟩) (fun c q => l.xc _ q) q⟩
  refine stE h.mo b P S q (fun d hd v H' Hf2 Hh' t2 p2 s2 rv => ?_) (fun c hc => hc)
  have rv := rv hd.1
  rcases hd.2 with ⟨kvs, ks, e1, e2, hl, q⟩ | ⟨kvs, k', e1, e2, hl, q⟩
  · obtain ⟨a, o, h1, h2, h3, r⟩ := s2.own i _ e1
    obtain ⟨ws, rfl, hk, r⟩ := (r : ∃ ws, o = .dT ws ∧ _)
    obtain ⟨_, c, us, g1, g2, g3, g4⟩ := s2.trk j _ e2
    have := g4.ofKeys; subst this
    have hk := keysT hk
    have r : RpAll X.K Hf2 Hh' (ws.map (·.2)) (kvs.map (·.2)) := by rw [List.map_map] at r; exact r
    have lw : ws.length = kvs.length := by have := congrArg List.length hk; simpa using this.symm
    obtain ⟨z1, z2⟩ := put_rel (k := ks) hk r rv
    refine ⟨.ref a, h1, .ref c, g1, a, _, rfl, DPut.t (p2.x a _ h2).1 (p2.sub _ _ g2) (by rw [lw, sizeLine_eq]; exact hl), ?_⟩
    refine q _ _ Hf2 Hh' _ t2 (p2.setX h2) (s2.mut e1 h1 h3 ⟨_, rfl, ?_, ?_⟩)
    · have := congrArg (List.map (fun k : List Key => D.tuple (k.map D.ofKey))) z1
      simpa [List.map_map, Function.comp_def] using this
    · simpa [List.map_map, Function.comp_def] using z2
  · obtain ⟨a, o, h1, h2, h3, r⟩ := s2.own i _ e1
    obtain ⟨ws, rfl, hk, r⟩ := (r : ∃ ws, o = .dK ws ∧ _)
    obtain ⟨u, g1, g2⟩ := s2.fz j _ e2
    have := g2.ofKey; subst this
    have hk := keysK hk
    have r : RpAll X.K Hf2 Hh' (ws.map (·.2)) (kvs.map (·.2)) := by rw [List.map_map] at r; exact r
    have lw : ws.length = kvs.length := by have := congrArg List.length hk; simpa using this.symm
    obtain ⟨z1, z2⟩ := put_rel (k := k') hk r rv
    refine ⟨.ref a, h1, kV k', g1, a, _, rfl, DPut.k (p2.x a _ h2).1 (by rw [lw, sizeLine_eq]; exact hl), ?_⟩
    refine q _ _ Hf2 Hh' _ t2 (p2.setX h2) (s2.mut e1 h1 h3 ⟨_, rfl, ?_, ?_⟩)
    · have := congrArg (List.map D.ofKey) z1
      simpa [List.map_map, Function.comp_def] using this
    · simpa [List.map_map, Function.comp_def] using z2
end
end DL

set_option Elab.async false
set_option linter.all false
set_option maxRecDepth 100000
set_option maxHeartbeats 4000000
namespace DL
open PySem PySem.Spec PyProof.Rows L2
variable [TabsC]
def sortD (xs : List D) : List D := xs.mergeSort (PySem.W.dataLe false D.py)
/-- may be sorted -/
def sortP (xs : List D) : Prop := D.pls xs = true ∧ PySem.W.AllAlike (xs.map D.py) ∧ PySem.W.Sortable (xs.map D.py) ∧ (∀ x ∈ xs, x.py.depth ≤ 60) ∧ xs.length ≤ sizeLine
abbrev T3 := Value × V × D
theorem zip3 {K : PySem.W.Frag} {Hf Hh : Hp} : ∀ {us : List Value} {vs : List V} {ds : List D}, Vals vs us → RpAll K Hf Hh vs ds → ∃ bs : List T3, bs.map (·.1) = us ∧ bs.map (·.2.1) = vs ∧ bs.map (·.2.2) = ds ∧ (∀ b ∈ bs, RelV b.2.1 b.1 ∧ Rp K Hf Hh b.2.1 b.2.2)
  | _, _, _, .nil, .nil => ⟨[], rfl, rfl, rfl, fun b h => nomatch h⟩
  | _, _, _, .cons (a := v) (b := u) a r, .cons (d := d) b q => by
    obtain ⟨bs, e1, e2, e3, h⟩ := zip3 r q
    refine ⟨(u, v, d) :: bs, by simp [e1], by simp [e2], by simp [e3], fun b' hb => ?_⟩
    rcases List.mem_cons.mp hb with rfl | hb
    · exact ⟨a, b⟩
    · exact h b' hb
theorem each_id : ∀ bs : List T3, PySem.W.EachIs (fun v (b : T3) => v = b.1) (bs.map (·.1)) bs
  | [] => .nil
  | b :: bs => .cons rfl (each_id bs)
theorem each_eq : ∀ {out : List Value} {bs : List T3}, PySem.W.EachIs (fun v (b : T3) => v = b.1) out bs → out = bs.map (·.1)
  | _, _, .nil => rfl
  | _, _, .cons h t => by rw [each_eq t, h]; rfl
theorem each_of {R : Value → T3 → Prop} : ∀ {bs : List T3}, (∀ b ∈ bs, R b.1 b) → PySem.W.EachIs R (bs.map (·.1)) bs
  | [], _ => .nil
  | b :: bs, h => .cons (h b (List.mem_cons_self ..)) (each_of fun c hc => h c (List.mem_cons_of_mem _ hc))
theorem vals_of3 : ∀ {bs : List T3}, (∀ b ∈ bs, RelV b.2.1 b.1) → Vals (bs.map (·.2.1)) (bs.map (·.1))
  | [], _ => .nil
  | b :: bs, h => .cons (h b (List.mem_cons_self ..)) (vals_of3 fun c hc => h c (List.mem_cons_of_mem _ hc))
theorem rp_of3 {K : PySem.W.Frag} {Hf Hh : Hp} : ∀ {bs : List T3}, (∀ b ∈ bs, Rp K Hf Hh b.2.1 b.2.2) → RpAll K Hf Hh (bs.map (·.2.1)) (bs.map (·.2.2))
  | [], _ => .nil
  | b :: bs, h => .cons (h b (List.mem_cons_self ..)) (rp_of3 fun c hc => h c (List.mem_cons_of_mem _ hc))
theorem pls_mem : ∀ {xs : List D}, D.pls xs = true → ∀ x ∈ xs, x.pl = true
  | x :: xs, h, y, hy => by
    rw [D.pls, Bool.and_eq_true] at h
    rcases List.mem_cons.mp hy with rfl | hy
    · exact h.1
    · exact pls_mem h.2 y hy
abbrev enc3 (b : T3) : PyData := b.2.2.py
theorem enc3_map (bs : List T3) : bs.map enc3 = (bs.map (·.2.2)).map D.py := by rw [List.map_map]; rfl
theorem sort3 (bs : List T3) : (bs.mergeSort (PySem.W.dataLe false enc3)).map (·.2.2) = sortD (bs.map (·.2.2)) := by
  unfold sortD
  exact List.map_mergeSort (f := fun b : T3 => b.2.2) fun a _ b _ => rfl
section
variable {X : Cx}
/-- a list that stands alone is sorted in place -/
theorem sort_end {K : PySem.W.Frag} {A : Around} {pins : List (Addr × Obj)} {σ : St} {s : Shared} {h' : Heap} {tk : Nat} {H Hf Hh Hx : Hp} {us : List Value} {vs : List V} {ds : List D} {Q : VK} {E : Value → Shared → Prop} (hK : K = X.K)
    (I : Inv X pins σ H { s with heap := h', toks := tk }) (P : Pt H Hf Hh Hx) (rv : Vals vs us) (r : RpAll K Hf Hh vs ds) (sp : sortP ds) (hu : A.units + 62 < cLine) (q : Bf K Hf Hh Hx Q (.list (sortD ds))) :
    wpAny (model X.prog X.w) A (call (.builtin "list.sort") [.ref h'.objs.size]) (fun _ s' => EP X pins σ Q (.ref h'.objs.size) s') E { s with heap := h'.push (seqObj "list" us.toArray 0), toks := tk } := by
  subst hK
  obtain ⟨bs, e1, e2, e3, hb⟩ := zip3 rv r
  have hob : (h'.push (seqObj "list" us.toArray 0)).get? h'.objs.size = some (seqObj "list" us.toArray 0) := Heap.get?_push_size _ rfl
  have hL : bs.length ≤ sizeLine := by have := congrArg List.length e3; rw [List.length_map] at this; rw [this]; exact sp.2.2.2.2
  have hd : ∀ b ∈ bs, b.2.2 ∈ ds := fun b h => by rw [← e3]; exact List.mem_map_of_mem h
  have er : PySem.W.EachIs (fun v (b : T3) => ∃ as, Reads (h'.push (seqObj "list" us.toArray 0)) v (enc3 b) as ∧ h'.objs.size ∉ as) us bs := by
    have g : ∀ b ∈ bs, ∃ as, Reads (h'.push (seqObj "list" us.toArray 0)) b.1 (enc3 b) as ∧ h'.objs.size ∉ as := fun b h => by
      obtain ⟨h1, h2⟩ := hb b h
      obtain ⟨as, hr⟩ := Dp.reads I _ _ _ (h2.dp P.sub (pls_mem sp.1 _ (hd b h))) h1
      refine ⟨as, PyProof.Rows.Reads.keeps (fun _ _ e => Heap.get?_push_of_some _ e) hr, fun hm => ?_⟩
      obtain ⟨o, ho⟩ := PyProof.On.reads_mem_get hr _ hm
      exact absurd (Heap.lt_size ho) (Nat.lt_irrefl _)
    have := each_of (R := fun v (b : T3) => ∃ as, Reads (h'.push (seqObj "list" us.toArray 0)) v (enc3 b) as ∧ h'.objs.size ∉ as) g
    rw [e1] at this
    exact this
  refine PySem.W.list_sort_data (s := { s with heap := h'.push (seqObj "list" us.toArray 0), toks := tk }) (R := fun v (b : T3) => v = b.1) (bs := bs) (enc := enc3) hob (by rw [← e1]; exact each_id bs) er
    (by rw [enc3_map, e3]; exact sp.2.1) (by rw [enc3_map, e3]; exact sp.2.2.1) hL (fun b h => ?_) fun out ho eo => ?_
  · have := sp.2.2.2.1 _ (hd b h)
    show A.units + 1 + b.2.2.py.depth < cLine
    omega
  · have eo := each_eq eo
    subst eo
    obtain ⟨c, hc⟩ := sortedHeap_at (vs := us) (out := ((bs.mergeSort (PySem.W.dataLe false enc3)).map (·.1)).toArray) hob
    have hm : ∀ b ∈ bs.mergeSort (PySem.W.dataLe false enc3), RelV b.2.1 b.1 ∧ Rp X.K Hf Hh b.2.1 b.2.2 := fun b h => hb b (List.mem_mergeSort.mp h)
    have hlen : ((bs.mergeSort (PySem.W.dataLe false enc3)).map (·.2.1)).length ≤ sizeLine := by rw [List.length_map, List.length_mergeSort]; exact hL
    refine ⟨.ref h'.objs.size, upd H h'.objs.size (.lst ((bs.mergeSort (PySem.W.dataLe false enc3)).map (·.2.1))), I.laid (t' := tk) (fun b u e => ?_) (Nat.le_refl _)
      (show ObjOk X.prog X.w _ _ _ (.lst ((bs.mergeSort (PySem.W.dataLe false enc3)).map (·.2.1))) from ⟨hlen, _, c, vals_of3 fun b h => (hm b h).1, hc⟩), rfl, q _ _ H Hf Hh (Tr.refl _ _) P (I.hok.fresh (Nat.le_refl _)) ⟨_, rfl, hlen, ?_⟩⟩
    · have hlt : b < h'.objs.size := Heap.lt_size e
      exact (sortedHeap_old (Nat.ne_of_lt hlt) (by rw [size_push']; exact Nat.lt_succ_of_lt hlt)).trans (Heap.get?_push_of_some _ e)
    · rw [← e3, ← sort3]
      exact rp_of3 fun b h => (hm b h).2
theorem rp_key {K : PySem.W.Frag} {Hf Hh : Hp} (k : Key) : Rp K Hf Hh (kV k) (D.ofKey k) := by
  cases k with
  | inl i => exact .int i
  | inr x => exact .str x
/-- a dict's entries -/
theorem dict_items {pins : List (Addr × Obj)} {σ : St} {s : Shared} {H Hf Hh Hx : Hp} {a : Addr} {t : Bool} {ds : List (D × D)} (I : Inv X pins σ H s) (P : Pt H Hf Hh Hx) (r : Rp X.K Hf Hh (.ref a) (.dict t ds)) (kn : t = true → TabsC.kn = false) :
    ∃ (o : Obj) (es : Array DictEntry) (ep : Nat) (ks vs : List V) (ku vu : List Value), (a == sysModules) = false ∧ s.heap.get? a = some o ∧ o.ExactDict ∧ o.data = .dict es ep ∧ es.size ≤ sizeLine ∧
      ku = es.toList.map (·.key) ∧ vu = es.toList.map (·.val) ∧ Vals ks ku ∧ Vals vs vu ∧ RpAll X.K Hf Hh ks (ds.map (·.1)) ∧ RpAll X.K Hf Hh vs (ds.map (·.2)) := by
  cases r with
  | dK e hk hv =>
    rename_i kvs
    obtain ⟨z, hd, vs, rel, o, es, ep, ho, hx, hdat, _, hp, _⟩ := dk_of I.hok (P.sub _ _ e)
    have go : ∀ {es : List DictEntry} {vs : List (Key × Value)} {kvs : List (Key × V)}, Pairs (mixKind X.prog X.w) es vs → KV kvs vs → Vals (kvs.map fun p => kV p.1) (es.map (·.key)) ∧ Vals (kvs.map (·.2)) (es.map (·.val)) ∧ es.length = kvs.length := by
      intro es vs kvs hp
      induction hp generalizing kvs with
      | nil => intro rel; cases rel; exact ⟨.nil, .nil, rfl⟩
      | cons h1 h2 _ ih =>
        intro rel
        cases rel with
        | cons q1 q2 =>
          obtain ⟨i1, i2, i3⟩ := ih q2
          refine ⟨.cons (keyIs_rel (by rw [q1.1]; exact h1)) i1, .cons (by have z := q1.2; rw [← h2] at z; exact z) i2, by simp [i3]⟩
    obtain ⟨g1, g2, g3⟩ := go hp rel
    refine ⟨o, es, ep, _, _, _, _, hd, ho, hx, hdat, ?_, rfl, rfl, g1, g2, ?_, hv⟩
    · rw [← Array.length_toList, g3]; exact z
    · rw [hk]
      clear hk hv g1 g2 g3 rel e z hp
      induction kvs with
      | nil => exact .nil
      | cons p kvs ih =>
        exact .cons (rp_key p.1) ih
  | dT e hk hv =>
    rename_i kvs
    obtain ⟨z, hd, xs, rel, o, es, ep, ho, hx, hdat, he, _, _⟩ := dt_of I.hok (P.sub _ _ e)
    have hkeys : ∀ {k : List Key} {b : Addr}, H b = some (.tup (k.map kV)) → Rp X.K Hf Hh (.ref b) (.tuple (k.map D.ofKey)) := fun {k b} hb => by
      have z := (show ObjOk X.prog X.w H s.heap b (.tup (k.map kV)) from I.hok b _ hb).1
      have hf : Hf b = some (.tup (k.map kV)) := by
        rcases P.c b _ hb with h | h | h
        · exact h
        · exact absurd h (P.nt b _).1
        · exact absurd h (P.nt b _).2
      refine .tuple (SqT.of hf) z ?_ fun e => by rw [kn rfl] at e; cases e
      clear hb z hf
      induction k with
      | nil => exact .nil
      | cons x k ih =>
        exact .cons (rp_key x) ih
    have go : ∀ {es : List DictEntry} {xs : List (List Key × Addr × Value)} {kvs : List (List Key × V)}, es = xs.map (entryOfKey (tupleKind (mixKind X.prog X.w))) → KT H kvs xs →
        Vals (xs.map fun p => V.ref p.2.1) (es.map (·.key)) ∧ Vals (kvs.map (·.2)) (es.map (·.val)) ∧ es.length = kvs.length ∧ RpAll X.K Hf Hh (xs.map fun p => V.ref p.2.1) (kvs.map fun p => D.tuple (p.1.map D.ofKey)) := by
      intro es xs kvs e rel
      subst e
      induction rel with
      | nil => exact ⟨.nil, .nil, rfl, .nil⟩
      | cons h _ ih =>
        obtain ⟨i1, i2, i3, i4⟩ := ih
        obtain ⟨h1, h2, h3⟩ := h
        exact ⟨.cons rfl i1, .cons h3 i2, by simpa using i3, .cons (hkeys h2) i4⟩
    obtain ⟨g1, g2, g3, g4⟩ := go he rel
    refine ⟨o, es, ep, _, _, _, _, hd, ho, hx, hdat, ?_, rfl, rfl, g1, g2, ?_, hv⟩
    · rw [← Array.length_toList, g3]; exact z
    · rw [hk]; exact g4
/-- sorted(xs), sorted(d) -/
def sortedW : W1 := fun ds K => match ds with
  | [.list xs] => sortP xs ∧ K (.list (sortD xs))
  | [.tuple xs] => sortP xs ∧ K (.list (sortD xs))
  | [.dict t kvs] => ((t = true → TabsC.kn = false) ∧ sortP (kvs.map (·.1))) ∧ K (.list (sortD (kvs.map (·.1))))
  | _ => False
theorem items_list {P : Nat → Value → Prop} {acc : Array Value} {n : Nat} {us : List Value} (h : ItemsOf P acc n) (hl : us.length = n) (hu : ∀ (j : Nat) (v : Value), P j v → us[j]? = some v) : acc.toList = us := by
  apply List.ext_getElem?
  intro j
  cases hj : acc.toList[j]? with
  | none =>
    have h1 := List.getElem?_eq_none_iff.mp hj
    rw [Array.length_toList, h.1] at h1
    rw [List.getElem?_eq_none (by omega)]
  | some v => exact (hu j v (h.2 j v (by rw [← Array.getElem?_toList]; exact hj))).symm
theorem cf_sorted (hu : X.A.units + 65 < cLine) (hc : X.calm = true := by rfl) : CallF X (.builtin "sorted") sortedW := by
  refine ⟨fun pins s σ H xs us Q I rv h => ?_, fun ds K1 K2 hk h => ?_⟩
  · obtain ⟨Hf, Hh, Hx, ds, P, R, q⟩ := h
    unfold sortedW at q
    split at q
    · obtain ⟨v, rfl, r⟩ := R.one
      cases r with | list e z r =>
      obtain ⟨u, rfl, rx⟩ := rv.one
      cases rx
      rename_i xs' a vs
      obtain ⟨its, ri, pl, hz⟩ := I.list (SqL.up e P.sub)
      obtain ⟨sp, q⟩ := q
      obtain ⟨bs, e1, e2, e3, hb⟩ := zip3 ri r
      have hL : bs.length ≤ sizeLine := by have := congrArg List.length e3; rw [List.length_map] at this; rw [this]; exact sp.2.2.2.2
      have hd : ∀ b ∈ bs, b.2.2 ∈ xs' := fun b h => by rw [← e3]; exact List.mem_map_of_mem h
      refine PySem.W.sorted_data (R := fun v (b : T3) => v = b.1) (bs := bs) (enc := enc3) pl.isList (by rw [← e1]; exact each_id bs) ?_ (by rw [enc3_map, e3]; exact sp.2.1) (by rw [enc3_map, e3]; exact sp.2.2.1) hL (fun b h => ?_) fun out ho eo => ?_
      · have g : ∀ b ∈ bs, ∃ as, Reads s.heap b.1 (enc3 b) as := fun b h => by
          obtain ⟨h1, h2⟩ := hb b h
          exact Dp.reads I _ _ _ (h2.dp P.sub (pls_mem sp.1 _ (hd b h))) h1
        have := each_of (R := fun v (b : T3) => ∃ as, Reads s.heap v (enc3 b) as) g
        rw [e1] at this
        exact this
      · have := sp.2.2.2.1 _ (hd b h)
        have e : (enc3 b).depth = b.2.2.py.depth := rfl
        omega
      · have eo := each_eq eo
        subst eo
        obtain ⟨c, hc⟩ := sortedAll_at s.heap its ((bs.mergeSort (PySem.W.dataLe false enc3)).map (·.1)).toArray
        have hm : ∀ b ∈ bs.mergeSort (PySem.W.dataLe false enc3), RelV b.2.1 b.1 ∧ Rp X.K Hf Hh b.2.1 b.2.2 := fun b h => hb b (List.mem_mergeSort.mp h)
        have hlen : ((bs.mergeSort (PySem.W.dataLe false enc3)).map (·.2.1)).length ≤ sizeLine := by rw [List.length_map, List.length_mergeSort]; exact hL
        refine ⟨.ref (s.heap.objs.size + 1), upd H (s.heap.objs.size + 1) (.lst ((bs.mergeSort (PySem.W.dataLe false enc3)).map (·.2.1))), I.laid (t' := s.toks) (fun b u e => sortedAll_old e) (Nat.le_succ _)
          (show ObjOk X.prog X.w _ _ _ (.lst ((bs.mergeSort (PySem.W.dataLe false enc3)).map (·.2.1))) from ⟨hlen, _, c, vals_of3 fun b h => (hm b h).1, hc⟩), rfl, q _ _ H Hf Hh (Tr.refl _ _) P (I.hok.fresh (Nat.le_succ _)) ⟨_, rfl, hlen, ?_⟩⟩
        rw [← e3, ← sort3]
        exact rp_of3 fun b h => (hm b h).2
    · obtain ⟨v, rfl, r⟩ := R.one
      obtain ⟨sp, q⟩ := q
      obtain ⟨u, rfl, rx⟩ := rv.one
      cases r with | tuple e z r =>
      cases rx
      obtain ⟨its, ri, ⟨o, ho, hcl, n, hdt⟩, hz⟩ := I.tuple (SqT.sub e P.sub)
      refine Calls.call_function_entry PyProof.Rows.kind_sorted PyProof.Rows.plain_sorted PyProof.Rows.entry_sorted (PyProof.Rows.args_sorted1 _) ?_
      unfold Builtin.«sorted»
      refine wpAny_bind (m := checkCount "sorted" 1 1 _) (wpAny_pure ?_)
      refine wpAny_bind (wpAny_collect_seq (A := X.A.in1) _ (.inr rfl) ho hcl hdt (fun h' hk => ?_) (by rw [List.size_toArray, ← ri.length]; exact hz))
      rw [List.toList_toArray]
      refine wpAny_bind (wpAny_newList ?_ (by rw [← ri.length]; exact hz))
      refine wpAny_bind (wpAny_holding (wpAny_mono (sort_end (A := X.A.in1) (tk := s.toks) rfl (I.kept (t' := s.toks) hk) P ri r sp (by show X.A.units + 1 + 62 < cLine; omega) q) (fun _ s' x => ?_) fun _ _ e => e))
      exact wpAny_pure ⟨_, rfl, x⟩
    · obtain ⟨v, rfl, r⟩ := R.one
      obtain ⟨⟨kn, sp⟩, q⟩ := q
      obtain ⟨u, rfl, rx⟩ := rv.one
      have hv : ∃ a, v = V.ref a := by cases r <;> exact ⟨_, rfl⟩
      obtain ⟨a, rfl⟩ := hv
      cases rx
      obtain ⟨o, es, ep, ks, vs, ku, vu, hd, ho, hx, hdat, hz, rfl, rfl, rk, _, pk, _⟩ := dict_items I P r kn
      refine Calls.call_function_entry PyProof.Rows.kind_sorted PyProof.Rows.plain_sorted PyProof.Rows.entry_sorted (PyProof.Rows.args_sorted1 _) ?_
      unfold Builtin.«sorted»
      refine wpAny_bind (m := checkCount "sorted" 1 1 _) (wpAny_pure ?_)
      refine wpAny_bind (PySem.W.kdu_collect (A := X.A.in1) (kdl_raw hd hx hdat) (I.ok.hd hc) ho hz fun h' tk acc hk hacc => ?_)
      have ea : acc.toList = es.toList.map (·.key) := items_list hacc (by simp) fun j v ⟨en, h1, h2⟩ => by
        rw [List.getElem?_map, Array.getElem?_toList, h1, h2]; rfl
      rw [ea]
      refine wpAny_bind (wpAny_newList ?_ (by rw [List.length_map, Array.length_toList]; exact hz))
      refine wpAny_bind (wpAny_holding (wpAny_mono (sort_end (A := X.A.in1) (tk := tk) rfl (I.kept hk) P rk pk sp (by show X.A.units + 1 + 62 < cLine; omega) q) (fun _ s' x => ?_) fun _ _ e => e))
      exact wpAny_pure ⟨_, rfl, x⟩
    · exact q.elim
  · unfold sortedW at h ⊢
    split at h <;> first | exact ⟨h.1, hk _ h.2⟩ | exact h.elim
/-- tuples already laid are tracked -/
theorem takeTs {pins : List (Addr × Obj)} {σ : St} {H0 : Hp} {s : Shared} {h' : Heap} {tk : Nat} {P : Addr → List V → Prop} (I0 : Inv X pins σ H0 s) : ∀ (L : List Addr) (H1 : Hp), Inv X pins σ H1 { s with heap := h', toks := tk } → L.Nodup →
    (∀ a ∈ L, s.heap.objs.size ≤ a ∧ H1 a = none ∧ ∃ vs, P a vs ∧ ∀ H2, ObjOk X.prog X.w H2 h' a (.tup vs)) →
    ∃ H2, Inv X pins σ H2 { s with heap := h', toks := tk } ∧ (∀ b, b ∉ L → H2 b = H1 b) ∧ ∀ a ∈ L, ∃ vs, P a vs ∧ H2 a = some (.tup vs)
  | [], H1, I1, _, _ => ⟨H1, I1, fun _ _ => rfl, fun _ h => nomatch h⟩
  | a :: L, H1, I1, hn, h => by
    obtain ⟨hb, hnone, vs, hP, ok⟩ := h a (List.mem_cons_self ..)
    have I2 : Inv X pins σ (upd H1 a (.tup vs)) { s with heap := h', toks := tk } := I1.take (h' := h') (t' := tk) (fun b ob _ e => e) (I0.fpOk hb hnone) (ok _)
    rw [List.nodup_cons] at hn
    obtain ⟨H2, I3, g, q⟩ := takeTs I0 L (upd H1 a (.tup vs)) I2 hn.2 fun c hc => by
      obtain ⟨c1, c2, c3⟩ := h c (List.mem_cons_of_mem _ hc)
      exact ⟨c1, by rw [upd_ne (fun z => hn.1 (by rw [← z]; exact hc))]; exact c2, c3⟩
    refine ⟨H2, I3, fun b hb => ?_, fun c hc => ?_⟩
    · rw [g b fun z => hb (List.mem_cons_of_mem _ z), upd_ne (fun z => hb (by rw [z]; exact List.mem_cons_self ..))]
    · rcases List.mem_cons.mp hc with rfl | hc
      · exact ⟨vs, hP, by rw [g _ hn.1]; exact upd_same⟩
      · exact q c hc
theorem Pt.newFs {H H2 Hf Hh Hx : Hp} {L : List Addr} (P : Pt H Hf Hh Hx) (hL : ∀ a ∈ L, H a = none ∧ ∃ vs, H2 a = some (.tup vs)) (hb : ∀ b, b ∉ L → H2 b = H b) :
    ∃ Hf2, Sub Hf Hf2 ∧ Pt H2 Hf2 Hh Hx ∧ ∀ a ∈ L, Hf2 a = H2 a := by
  classical
  let Hf2 : Hp := fun a => if a ∈ L then H2 a else Hf a
  have i1 : ∀ a, a ∈ L → Hf2 a = H2 a := fun a h => by show (if a ∈ L then _ else _) = _; rw [if_pos h]
  have i2 : ∀ a, a ∉ L → Hf2 a = Hf a := fun a h => by show (if a ∈ L then _ else _) = _; rw [if_neg h]
  refine ⟨Hf2, fun a o e => ?_, ⟨fun a o e => ?_, fun a o e => ?_, fun a o e => ?_, fun a o e => ?_, P.nt, fun b ps => ⟨fun e => ?_, (P.nb b ps).2⟩, fun q hq => (P.tb q hq).mono fun a o e => ?_, P.nx⟩, i1⟩
  · have h : a ∉ L := fun h => by rw [(P.fresh (hL a h).1).1] at e; cases e
    rw [i2 a h]; exact e
  · by_cases h : a ∈ L
    · rw [i1 a h] at e
      exact ⟨e, (P.fresh (hL a h).1).2⟩
    · rw [i2 a h] at e
      rw [hb a h]; exact P.f a o e
  · have h : a ∉ L := fun h => by rw [(P.fresh (hL a h).1).2.1] at e; cases e
    rw [hb a h, i2 a h]; exact P.h a o e
  · have h : a ∉ L := fun h => by rw [(P.fresh (hL a h).1).2.2] at e; cases e
    rw [hb a h, i2 a h]; exact P.x a o e
  · by_cases h : a ∈ L
    · exact .inl (by rw [i1 a h]; exact e)
    · rw [i2 a h]; exact P.c a o (by rw [← hb a h]; exact e)
  · by_cases h : b ∈ L
    · rw [i1 b h] at e
      obtain ⟨_, vs, ho⟩ := hL b h
      rw [ho] at e; cases e
    · rw [i2 b h] at e; exact (P.nb b ps).1 e
  · have h : a ∉ L := fun h => by rw [(P.fresh (hL a h).1).1] at e; cases e
    rw [i2 a h]; exact e
/-- the pairs of a dict -/
def pairsD (kvs : List (D × D)) : List D := kvs.map fun p => .tuple [p.1, p.2]
def rItemsD : V → List V → Hp → VK → Prop := fun x xs H Q => ∃ (a : Addr), x = .ref a ∧ xs = [] ∧ ((∃ kvs, H a = some (.dT kvs)) ∨ ∃ kvs, H a = some (.dK kvs)) ∧ ∀ p, H p = none → Q (.ref p) (upd H p (DX.itemsO p a))
theorem mt_itemsD : MtR X "dict.items" rItemsD := by
  intro pins s σ H x xs v us Q I rx rxs h
  obtain ⟨a, rfl, rfl, ha, q⟩ := h
  cases rx
  cases rxs
  have z : (a == sysModules) = false ∧ ∃ o es ep, s.heap.get? a = some o ∧ o.ExactDict ∧ o.data = .dict es ep := by
    rcases ha with ⟨kvs, ha⟩ | ⟨kvs, ha⟩
    · obtain ⟨z, hd, xs', rel, o, es, ep, ho, hx, hdat, _⟩ := dt_of I.hok ha
      exact ⟨hd, o, es, ep, ho, hx, hdat⟩
    · obtain ⟨z, hd, xs', rel, o, es, ep, ho, hx, hdat, _⟩ := dk_of I.hok ha
      exact ⟨hd, o, es, ep, ho, hx, hdat⟩
  obtain ⟨hd, o, es, ep, ho, hx, hdat⟩ := z
  refine DT.callItems (es := es) (ep := ep) hd ⟨o, ho, hx, hdat⟩ ?_
  have hf : H s.heap.objs.size = none := I.hok.fresh (Nat.le_refl _)
  exact ⟨.ref s.heap.objs.size, upd H s.heap.objs.size (DX.itemsO s.heap.objs.size a), I.laid (t' := s.toks) (fun b u e => Heap.get?_push_of_some _ e) (Nat.le_refl _) (DX.itemsO_ok (Heap.get?_push_size _ rfl)), rfl, q _ hf⟩
def rSortI (K : PySem.W.Frag) : List V → Hp → VK → Prop := fun vs H Q => ∃ (p a : Addr) (t : Bool) (kvs : List (D × D)) (Hf Hh Hx : Hp), vs = [.ref p] ∧ H p = some (DX.itemsO p a) ∧ Pt H Hf Hh Hx ∧ Rp K Hf Hh (.ref a) (.dict t kvs) ∧ (TabsC.kn = false ∧ sortP (pairsD kvs)) ∧ Bf K Hf Hh Hx Q (.list (sortD (pairsD kvs)))
theorem cr_sortI (hu : X.A.units + 65 < cLine) (hc : X.calm = true) : CallR X (.builtin "sorted") (rSortI X.K) := by
  intro pins s σ H xs us Q I r h
  obtain ⟨p, a, t, kvs, Hf, Hh, Hx, rfl, hp, P, rd, ⟨kn, sp⟩, q⟩ := h
  obtain rfl := Vals.ref1 r
  have view : s.heap.IsItemsView p a := (show ObjOk X.prog X.w H s.heap p (DX.itemsO p a) from I.hok p _ hp).1
  obtain ⟨o, es, ep, ks, vs, ku, vu, hd, ho, hx, hdat, hz, rfl, rfl, rk, rv, pk, pv⟩ := dict_items I P rd (fun _ => kn)
  refine DT.sortedI (es := es) (ep := ep) (I.ok.hd hc) view ⟨o, ho, hx, hdat⟩ hz fun h' tk as hk hlt hl hG => ?_
  have nd : as.Nodup := List.Pairwise.imp (fun h => Nat.ne_of_lt h) hG.rise
  have lk : ks.length = es.size := by have := rk.length; simpa using this
  have lv : vs.length = es.size := by have := rv.length; simpa using this
  have ld : kvs.length = es.size := by have := pk.length; rw [lk, List.length_map] at this; exact this.symm
  have pr : ∀ (j : Nat) (b : Addr), as[j]? = some b → ∃ k v, ks[j]? = some k ∧ vs[j]? = some v ∧ ∀ H2, ObjOk X.prog X.w H2 h' b (.tup [k, v]) := fun j b hj => by
    obtain ⟨en, he, hg⟩ := hG.pairs j b hj
    have e1 : (es.toList.map (·.key))[j]? = some en.key := by rw [List.getElem?_map, Array.getElem?_toList, he]; rfl
    have e2 : (es.toList.map (·.val))[j]? = some en.val := by rw [List.getElem?_map, Array.getElem?_toList, he]; rfl
    obtain ⟨k, hk1, hk2⟩ := DX.pget rk e1
    obtain ⟨v, hv1, hv2⟩ := DX.pget rv e2
    refine ⟨k, v, hk1, hv1, fun H2 => ⟨?_, [en.key, en.val], .cons hk2 (.cons hv2 .nil), ⟨_, hg, rfl, 0, rfl⟩⟩⟩
    simp [sizeLine_eq]
  have I1 : Inv X pins σ H { s with heap := h', toks := tk } := I.kept hk
  obtain ⟨H2, I2, g, qt⟩ := takeTs (P := fun b ws => ∃ (j : Nat) (k v : V), as[j]? = some b ∧ ks[j]? = some k ∧ vs[j]? = some v ∧ ws = [k, v]) I as H I1 nd fun b hb => by
    obtain ⟨j, hj⟩ := List.mem_iff_getElem?.mp hb
    obtain ⟨k, v, h1, h2, h3⟩ := pr j b hj
    have hlo : s.heap.objs.size ≤ b := Nat.le_of_lt (hG.above b hb)
    exact ⟨hlo, I.hok.fresh hlo, [k, v], ⟨j, k, v, hj, h1, h2, rfl⟩, h3⟩
  obtain ⟨Hf2, s2, P2, hf2⟩ := P.newFs (L := as) (H2 := H2) (fun a ha => ⟨I.hok.fresh (Nat.le_of_lt (hG.above a ha)), by obtain ⟨ws, _, e⟩ := qt a ha; exact ⟨_, e⟩⟩) g
  have rr : RpAll X.K Hf2 Hh (as.map V.ref) (pairsD kvs) := by
    have pk2 := pk.mono (Tr.sub (Hh := Hh) s2)
    have pv2 := pv.mono (Tr.sub (Hh := Hh) s2)
    have gen : ∀ (n : Nat) (as' : List Addr), as' = as.drop n → RpAll X.K Hf2 Hh (as'.map V.ref) (pairsD (kvs.drop n)) := by
      intro n as'
      induction as' generalizing n with
      | nil =>
        intro e
        have : as.length ≤ n := by
          have := congrArg List.length e
          rw [List.length_drop, List.length_nil] at this
          omega
        rw [List.drop_eq_nil_of_le (by omega)]
        exact .nil
      | cons b as' ih =>
        intro e
        have hj : as[n]? = some b := by
          have := congrArg (fun l : List Addr => l[0]?) e
          simpa using this.symm
        have hlt : n < as.length := by
          rcases Nat.lt_or_ge n as.length with h | h
          · exact h
          · rw [List.getElem?_eq_none h] at hj; cases hj
        have hk : n < kvs.length := by omega
        have ih := ih (n + 1) (by rw [← List.drop_drop, ← e]; rfl)
        rw [List.drop_eq_getElem_cons hk]
        refine .cons ?_ ih
        obtain ⟨ws, ⟨j, k, v, e1, e2, e3, rfl⟩, e4⟩ := qt b (List.mem_of_getElem? hj)
        have hjn : j = n := by
          have l1 : j < as.length := by
            rcases Nat.lt_or_ge j as.length with h | h
            · exact h
            · rw [List.getElem?_eq_none h] at e1; cases e1
          exact (List.getElem?_inj l1 nd).mp (e1.trans hj.symm)
        subst hjn
        obtain ⟨dk, f1, f2⟩ := pk2.getV e2
        obtain ⟨dv, f3, f4⟩ := pv2.getV e3
        rw [List.getElem?_map, List.getElem?_eq_getElem hk] at f1 f3
        cases f1; cases f3
        exact .tuple (SqT.of ((hf2 b (List.mem_of_getElem? hj)).trans e4)) (by simp [sizeLine_eq]) (.cons f2 (.cons f4 .nil)) fun e => by rw [kn] at e; cases e
    have := gen 0 as (by simp)
    simpa using this
  exact sort_end (A := X.A.in1) (tk := tk) rfl I2 P2 (vals_refs as) rr sp (by show X.A.units + 1 + 62 < cLine; omega) (q.tr (Tr.sub s2))
/-- sorted(e.items()) -/
def sortIW (f : WE) : WE := fun ρ K Xc => f ρ (fun d => match d with
  | .dict _ kvs => (TabsC.kn = false ∧ sortP (pairsD kvs)) ∧ K (.list (sortD (pairsD kvs)))
  | _ => False) Xc
theorem mono_sortI {f : WE} (m : MonoE f) : MonoE (sortIW f) := fun ρ K1 K2 X1 X2 hk hx h => m _ _ _ _ _ (fun d q => by
  split at q
  · exact ⟨q.1, hk _ q.2⟩
  · exact q.elim) hx h
theorem fd_sortI {xw : XW} {o : Expr} {f : WE} {np apos cpos pos : Pos} (hu : X.A.units + 65 < cLine) (hg : Gl X "sorted") (hm : X.mg "sorted" = none) (ho : ED X xw o f) (hc : X.calm = true := by rfl)
    (hp : ∀ t, PE X o t → PE X (.Call (.Name "sorted" np) [.Call (.Attribute o (Str.ofString "items") apos) [] [] cpos] [] pos) (tCB (rSortI X.K) (tCons (tBM0 X.K "dict" rItemsD t) tNil)) := by
      exact fun t ht => pe_callB (cr_sortI (by assumption) rfl) (by assumption) (by assumption) rfl (pa_cons (pe_bm0 PySem.F.plainAttrs_dict PySem.F.slot_dict_items PySem.F.type_dict_items mt_itemsD ht) pa_nil) (by decide)) :
    FD X xw (.Call (.Name "sorted" np) [.Call (.Attribute o (Str.ofString "items") apos) [] [] cpos] [] pos) (sortIW f) := by
  refine ⟨PE.imp (hp _ ho.pe) fun σ H Q ⟨Hf, Hh, Hx, ρ, P, S, q⟩ => ?_, mono_sortI ho.mo⟩
  refine LE.at ho.mo P S q (fun d hd v H1 Hf1 Hh1 T1 P1 R1 => ?_) (fun c hc => hc)
  split at hd
  · rename_i t kvs
    refine ⟨R1.tyD P1.sub rfl, ?_⟩
    have z : ∃ a, v = .ref a ∧ ((∃ kvs, Hf1 a = some (.dT kvs)) ∨ ∃ kvs, Hf1 a = some (.dK kvs)) := by
      cases R1 with
      | dT e _ _ => exact ⟨_, rfl, .inl ⟨_, e⟩⟩
      | dK e _ _ => exact ⟨_, rfl, .inr ⟨_, e⟩⟩
    obtain ⟨a, rfl, ha⟩ := z
    refine ⟨a, rfl, rfl, ha.imp (fun ⟨k, e⟩ => ⟨k, P1.sub _ _ e⟩) (fun ⟨k, e⟩ => ⟨k, P1.sub _ _ e⟩), fun p hp => ?_⟩
    have s := Sub.new (o := DX.itemsO p a) (P1.fresh hp).1
    exact ⟨p, a, t, kvs, _, _, _, rfl, upd_same, P1.newF hp (fun _ z => by unfold DX.itemsO at z; cases z), R1.mono (Tr.sub s), hd.1, hd.2.tr (T1.trans (Tr.sub s))⟩
  · exact hd.elim
theorem Ss.putTrk {K : PySem.W.Frag} {HxC Hf Hh Hx : Hp} {σ : St} {ρ : SEnv} (S : Ss K HxC Hf Hh Hx σ ρ) {i : Nat} {a : Addr} {vs : List V} {ds : List D} (ha : Hf a = some (.tup vs)) (hz : vs.length ≤ sizeLine) (r : RpAll K Hf Hh vs ds) (kn : TabsC.kn = false) :
    Ss K HxC Hf Hh Hx (σ.set i (some (.ref a))) (ρ.set i (some (.trk ds))) := by
  have other : ∀ {j : Nat} {x : Option SV}, j ≠ i → (ρ.set i (some (.trk ds)))[j]? = some x → ρ[j]? = some x := fun h e => by rw [List.getElem?_set_ne (Ne.symm h)] at e; exact e
  have same : ∀ {x : Option SV}, (ρ.set i (some (.trk ds)))[i]? = some x → x = some (.trk ds) ∧ i < ρ.length := fun {x} e => by
    rw [List.getElem?_set] at e
    simp only [if_true] at e
    split at e
    · rename_i h; exact ⟨(Option.some.inj e).symm, h⟩
    · cases e
  refine ⟨by simpa using S.len, fun j e h => ?_, fun j e h => ?_, fun j e h => ?_, fun j l e e' a hjl h1 h2 h3 => ?_, S.sub⟩
  · by_cases hj : j = i
    · subst hj; cases (same h).1
    · rw [List.getElem?_set_ne (Ne.symm hj)]
      exact S.fz j e (other hj h)
  · by_cases hj : j = i
    · subst hj; cases (same h).1
    · rw [List.getElem?_set_ne (Ne.symm hj)]
      exact S.own j e (other hj h)
  · by_cases hj : j = i
    · subst hj
      obtain ⟨q, hl⟩ := same h
      cases q
      exact ⟨kn, a, vs, by rw [List.getElem?_set_self (by rw [← S.len]; exact hl)], ha, hz, r⟩
    · rw [List.getElem?_set_ne (Ne.symm hj)]
      exact S.trk j e (other hj h)
  · have hj : j ≠ i := fun z => by subst z; cases (same h1).1
    have hl : l ≠ i := fun z => by subst z; cases (same h2).1
    rw [List.getElem?_set_ne (Ne.symm hj)] at h3
    rw [List.getElem?_set_ne (Ne.symm hl)]
    exact S.sep j l e e' a hjl (other hj h1) (other hl h2) h3
def trkW (b : Bool) (i : Nat) (f : WA) : WS := fun ρ k => f (view b ρ) (fun ds => ((b = true → D.flats ds = true) ∧ ds.length ≤ sizeLine ∧ TabsC.kn = false) ∧ k.nx (ρ.set i (some (.trk ds)))) k.xc
theorem d_trk {xw : XW} (b : Bool) (i : Nat) {x : Str} {es : List Expr} {f : WA} {x1} {pt pos pos' : Pos} (hN : X.N.Nodup) (he : AD X xw es f) (hi : X.N[i]? = some x := by rfl) (hx : Loc X.env.scope x := by first | exact .inl rfl | exact .inr rfl)
    (hs : swapsWith (.Tuple es x1 pt) (some (.Name x pos')) pos.line X.env = pure false := by rfl) (hf : X.fn x = true ∨ X.env.scope.names.lookup x = some .local := by first | exact .inl rfl | exact .inr rfl) :
    SD X xw (.Assign [.Name x pos'] (.Tuple es x1 pt) pos) (trkW b i f) := by
  refine ⟨PS.imp (ps_set hN hi hx (pe_tup he.pa) hs hf) fun Dn σ H ⟨HxC, Hf, Hh, Hx, ρ, P, S, q⟩ => ?_, fun ρ k1 k2 l q => he.mo _ _ _ _ _ (fun d q => ⟨q.1, l.nx _ q.2⟩) (fun c q => l.xc _ q) q⟩
  refine stA he.mo b P S q (fun ds hd vs H' Hf2 Hh' t2 p2 s2 r => ?_) (fun c hc => hc)
  have r := r hd.1.1
  have e := r.length
  have hz : vs.length ≤ sizeLine := by rw [e]; exact hd.1.2.1
  refine ⟨hz, fun p hp => ?_⟩
  have t3 := tr_new (Hh := Hh') (o := .tup vs) (p2.fresh hp).1
  exact hd.2 _ _ _ Hh' _ (t2.trans t3) (p2.newF hp) ((s2.mono t3).putTrk upd_same hz (r.mono t3) hd.1.2.2)
end
end DL
namespace DL
open PySem PySem.Spec PyProof.Rows L2
variable [TabsC]
theorem units1 {k : Nat} {A : Around} (r : Room k A) : A.units + 1 < cLine := by have := r.un; omega
end DL

set_option Elab.async false
set_option linter.all false
set_option maxRecDepth 100000
set_option maxHeartbeats 4000000
namespace DL
open PySem PySem.Spec PyProof.Rows L2
variable [TabsC]
theorem iteP {p : Prop} [Decidable p] {A B : Prop} (h : p) (a : A) : if decide p = true then A else B := by rw [if_pos (decide_eq_true h)]; exact a
theorem iteN {p : Prop} [Decidable p] {A B : Prop} (h : ¬ p) (a : B) : if decide p = true then A else B := by rw [if_neg (by simpa using h)]; exact a
section
variable (K : PySem.W.Frag)
def hG (k : Int) : TE := tOp (rIx K) (tVar 0) (tC (.int k))
def rI1 : List V → Hp → VK → Prop := fun xs H Q => (∃ i, xs = [.int i] ∧ Q (.int i) H) ∨ ∃ k, xs = [.bl k] ∧ Q (.int (if k then 1 else 0)) H
def rLn : List V → Hp → VK → Prop := fun xs H Q => ∃ x n, xs = [x] ∧ LenV K x H n ∧ Q (.int n) H
def oAdd (a b : TE) : TE := tOp (rI0 fun i j => .int (i + j)) a b
def oMul (a b : TE) : TE := tOp (rI CMul fun i j => .int (i * j)) a b
def oDiv (a b : TE) : TE := tOp (rI CDiv fun i j => .int (i / j)) a b
def oMod (a b : TE) : TE := tOp (rI (fun _ j => 0 < j) fun i j => .int (i % j)) a b
def oPow (a b : TE) : TE := tOp (rI CPow fun i j => .int (i ^ j.toNat)) a b
def oInt (a : TE) : TE := tCB rI1 (tCons a tNil)
def hS (k : Int) : TG := gSub (tVar 0) (tC (.int k)) rSetL
def drawA : TS :=
  tIfS (tAnd (tTest (tOp rEq (hG K 2) (tC (.int 0)))) (tTest (tOp (rI0 fun i j => .bl (decide (i < j))) (hG K 1) (tCB (rLn K) (tCons (hG K 0) tNil)))))
    (tSeq (tAsg (tOp (rIx K) (hG K 0) (hG K 1)) (gName 2))
    (tSeq (tAsg (oAdd (hG K 1) (tC (.int 1))) (hS 1))
    (tSeq (tAsg (oMod (oInt (oAdd (oAdd (oMul (hG K 3) (tC (.int 48271))) (tVar 2)) (tC (.int 11)))) (tC (.int 2147483647))) (hS 3))
      (tIfS (tTest (tOp (rI0 fun i j => .bl (decide (j ≤ i))) (tVar 2) (oPow (tC (.int 10)) (tC (.int 18))))) (tAsg (tVar 2) (hS 2)) tNext))))
    tNext
def drawB : TS :=
  (tSeq (tIfS (tTest (tOp (rI0 fun i j => .bl (decide (j < i))) (hG K 2) (tC (.int 0))))
    (tSeq (tAsg (oMod (oInt (hG K 2)) (tVar 1)) (gName 3))
    (tSeq (tAsg (oDiv (hG K 2) (tVar 1)) (hS 2))
      (tRet (tVar 3))))
    tNext)
  (tSeq (tAsg (oAdd (hG K 4) (tC (.int 1))) (hS 4))
  (tSeq (tAsg (oMod (oInt (oMul (oInt (oAdd (hG K 3) (oMul (tC (.int 6007)) (hG K 4)))) (tC (.int 69621)))) (tC (.int 2147483629))) (gName 4))
  (tSeq (tAsg (oMod (oInt (oMul (tVar 4) (oAdd (oDiv (tVar 4) (tC (.int 1013))) (tC (.int 48271))))) (tC (.int 2147483647))) (gName 4))
  (tSeq (tAsg (oMod (oInt (oMul (tVar 4) (oAdd (oDiv (tVar 4) (tC (.int 2011))) (tC (.int 16807))))) (tC (.int 2147483587))) (gName 4))
    (tRet (oMod (oInt (oDiv (tVar 4) (tC (.int 32)))) (tVar 1))))))))
def drawT : TS := tSeq (drawA K) (drawB K)

variable {K}
def hob (c : Addr) (i l m n : Int) : HO := .lst [.ref c, .int i, .int l, .int m, .int n]
theorem hG_ok {σ : St} {H : Hp} {Q : VK} {a : Addr} {vs : List V} {k : Int} {v : V} (e : σ[0]? = some (some (.ref a))) (ha : H a = some (.lst vs)) (hv : L2.atI vs k = some v) (q : Q v H) : hG K k σ H Q :=
  ⟨_, e, .inl ⟨a, vs, k, v, rfl, rfl, SqL.of ha, hv, q⟩⟩
theorem hS_ok {σ : St} {H : Hp} {Q : St → Hp → Prop} {a : Addr} {vs : List V} {k : Int} {j : Nat} {v : V} (e : σ[0]? = some (some (.ref a))) (ha : H a = some (.lst vs)) (hj : ixN vs.length k = some j) (q : Q σ (upd H a (.lst (vs.set j v)))) : hS k v σ H Q :=
  ⟨_, e, a, vs, k, j, rfl, rfl, ha, hj, q⟩
theorem mod_b {a b : Int} (h : 0 < b) : 0 ≤ a % b ∧ a % b < b := ⟨Int.emod_nonneg _ (by omega), Int.emod_lt_of_pos _ h⟩
theorem draw2 {H0 : Hp} {a c : Addr} {i l m n many : Int} {x2 : Option V} {Dn : Ends} (hm0 : 0 < many) (hm1 : many < 1073741824) (hi : 0 ≤ i) (hl : 0 ≤ l) (hm : 0 ≤ m ∧ m < 2 ^ 62) (hn : 0 ≤ n)
    (q : ∀ r i l m n, 0 ≤ r → r < many → 0 ≤ i → 0 ≤ l → 0 ≤ m → m < 2 ^ 62 → 0 ≤ n → Dn.rt (.int r) (upd H0 a (hob c i l m n))) : drawB K Dn [some (.ref a), some (.int many), x2, none, none] (upd H0 a (hob c i l m n)) := by
  have ha : ∀ {i l m n : Int}, upd H0 a (hob c i l m n) a = some (.lst [.ref c, .int i, .int l, .int m, .int n]) := upd_same
  refine hG_ok rfl ha (v := .int l) (by rfl) ⟨l, 0, rfl, rfl, _, rfl, ?_⟩
  by_cases h : 0 < l
  · refine iteP h ?_
    refine hG_ok rfl ha (v := .int l) (by rfl) (.inl ⟨_, rfl, _, rfl, _, _, rfl, rfl, hm0, ?_⟩)
    refine hG_ok rfl ha (v := .int l) (by rfl) ⟨_, rfl, _, _, rfl, rfl, ⟨hm0, hm1⟩, ?_⟩
    refine hS_ok (j := 2) rfl ha (by rfl) ⟨_, rfl, ?_⟩
    rw [upd_upd]
    exact q _ _ _ _ _ (mod_b hm0).1 (mod_b hm0).2 hi (Int.ediv_nonneg hl (by omega)) hm.1 hm.2 hn
  · refine iteN h ?_
    refine hG_ok rfl ha (v := .int n) (by rfl) ⟨n, 1, rfl, rfl, ?_⟩
    refine hS_ok (j := 4) rfl ha (by rfl) ?_
    rw [upd_upd]
    have ha : upd H0 a (hob c i l m (n + 1)) a = some (.lst [.ref c, .int i, .int l, .int m, .int (n + 1)]) := upd_same
    have C6 : ∀ x : Int, CMul 6007 x := fun x => .inl ⟨by decide, by decide⟩
    have C9 : ∀ x : Int, CMul x 69621 := fun x => .inr ⟨by decide, by decide⟩
    refine hG_ok rfl ha (v := .int m) (by rfl) (hG_ok rfl ha (v := .int (n + 1)) (by rfl) ⟨_, _, rfl, rfl, C6 _, ⟨_, _, rfl, rfl, .inl ⟨_, rfl, _, _, rfl, rfl, C9 _, .inl ⟨_, rfl, _, _, rfl, rfl, (show (0 : Int) < 2147483629 by decide), ?_⟩⟩⟩⟩)
    show gName 4 (.int ((m + 6007 * (n + 1)) * 69621 % 2147483629)) _ _ _
    obtain ⟨b1, b2⟩ := mod_b (a := (m + 6007 * (n + 1)) * 69621) (b := 2147483629) (by decide)
    generalize (m + 6007 * (n + 1)) * 69621 % 2147483629 = x1 at b1 b2 ⊢
    have CM : ∀ {x y : Int}, 0 ≤ x → x < 2147483648 → CMul x y := fun h1 h2 => .inl ⟨by omega, by omega⟩
    have D1 : ∀ x : Int, CDiv x 1013 := fun x => ⟨by decide, by decide⟩
    have D2 : ∀ x : Int, CDiv x 2011 := fun x => ⟨by decide, by decide⟩
    have D3 : ∀ x : Int, CDiv x 32 := fun x => ⟨by decide, by decide⟩
    refine ⟨_, rfl, _, rfl, _, _, rfl, rfl, D1 _, ⟨_, _, rfl, rfl, _, _, rfl, rfl, CM b1 (Int.lt_trans b2 (by decide)), .inl ⟨_, rfl, _, _, rfl, rfl, (show (0 : Int) < 2147483647 by decide), ?_⟩⟩⟩
    show gName 4 (.int (x1 * (x1 / 1013 + 48271) % 2147483647)) _ _ _
    obtain ⟨d1, d2⟩ := mod_b (a := x1 * (x1 / 1013 + 48271)) (b := 2147483647) (by decide)
    generalize x1 * (x1 / 1013 + 48271) % 2147483647 = x3 at d1 d2 ⊢
    refine ⟨_, rfl, _, rfl, _, _, rfl, rfl, D2 _, ⟨_, _, rfl, rfl, _, _, rfl, rfl, CM d1 (Int.lt_trans d2 (by decide)), .inl ⟨_, rfl, _, _, rfl, rfl, (show (0 : Int) < 2147483587 by decide), ?_⟩⟩⟩
    refine ⟨_, rfl, _, _, rfl, rfl, D3 _, .inl ⟨_, rfl, _, rfl, _, _, rfl, rfl, hm0, ?_⟩⟩
    exact q _ _ _ _ _ (mod_b hm0).1 (mod_b hm0).2 hi hl hm.1 hm.2 (by omega)
theorem draw1 {H0 : Hp} {a c : Addr} {cs : List Int} {i l m n many : Int} {Dn : Ends} (hc : SqL K H0 c (cs.map V.int)) (hac : a ≠ c) (hcs : ∀ x ∈ cs, 0 ≤ x) (hi : 0 ≤ i) (hl : 0 ≤ l) (hm : 0 ≤ m ∧ m < 2 ^ 62) (hn : 0 ≤ n)
    (hcu : ∀ o, SqL K (upd H0 a o) c (cs.map V.int))
    (q : ∀ x2 i l m n, 0 ≤ i → 0 ≤ l → 0 ≤ m → m < 2 ^ 62 → 0 ≤ n → Dn.nx [some (.ref a), some (.int many), x2, none, none] (upd H0 a (hob c i l m n))) : drawA K Dn [some (.ref a), some (.int many), none, none, none] (upd H0 a (hob c i l m n)) := by
  have ha : ∀ {i l m n : Int}, upd H0 a (hob c i l m n) a = some (.lst [.ref c, .int i, .int l, .int m, .int n]) := upd_same
  have done := q none i l m n hi hl hm.1 hm.2 hn
  refine hG_ok rfl ha (v := .int l) (by rfl) ⟨rfl, _, rfl, ?_⟩
  by_cases h : l = 0
  · subst h
    refine iteP rfl ?_
    refine hG_ok rfl ha (v := .int i) (by rfl) (hG_ok rfl ha (v := .ref c) (by rfl) ⟨_, _, rfl, .inl ⟨_, hcu _, rfl⟩, _, _, rfl, rfl, _, rfl, ?_⟩)
    by_cases hi2 : i < ((cs.map V.int).length : Nat)
    · refine iteP hi2 ?_
      have hlt : i.toNat < cs.length := by rw [List.length_map] at hi2; omega
      have hat : L2.atI (cs.map V.int) i = some (.int cs[i.toNat]) := by
        have hh := atI_cell hlt
        have e : ((i.toNat : Nat) : Int) = i := by omega
        rw [e] at hh
        rw [hh]
        simp [L2.cellOf, hlt]
      have hx : 0 ≤ cs[i.toNat] := hcs _ (List.getElem_mem hlt)
      generalize cs[i.toNat] = x at hat hx
      refine hG_ok rfl ha (v := .ref c) (by rfl) (hG_ok rfl ha (v := .int i) (by rfl) (.inl ⟨c, _, i, .int x, rfl, rfl, hcu _, hat, ?_⟩))
      refine hG_ok rfl ha (v := .int i) (by rfl) ⟨i, 1, rfl, rfl, ?_⟩
      refine hS_ok (j := 1) rfl ha (by rfl) ?_
      rw [upd_upd]
      have ha1 : upd H0 a (hob c (i + 1) 0 m n) a = some (.lst [.ref c, .int (i + 1), .int 0, .int m, .int n]) := upd_same
      refine hG_ok rfl ha1 (v := .int m) (by rfl) ⟨_, _, rfl, rfl, .inr ⟨by decide, by decide⟩, ⟨_, rfl, _, _, rfl, rfl, ⟨_, _, rfl, rfl, .inl ⟨_, rfl, _, _, rfl, rfl, (show (0 : Int) < 2147483647 by decide), ?_⟩⟩⟩⟩
      refine hS_ok (j := 3) rfl ha1 (by rfl) ?_
      rw [upd_upd]
      obtain ⟨b1, b2⟩ := mod_b (a := m * 48271 + x + 11) (b := 2147483647) (by decide)
      generalize m * 48271 + x + 11 = y at b1 b2 ⊢
      have ha2 : upd H0 a (hob c (i + 1) 0 (y % 2147483647) n) a = some (.lst [.ref c, .int (i + 1), .int 0, .int (y % 2147483647), .int n]) := upd_same
      refine ⟨_, rfl, _, _, rfl, rfl, ⟨by decide, by decide, by decide⟩, _, _, rfl, rfl, _, rfl, ?_⟩
      by_cases hb : ((10 : Int) ^ (Int.toNat 18)) ≤ x
      · refine iteP hb ?_
        refine ⟨_, rfl, hS_ok (j := 2) rfl ha2 (by rfl) ?_⟩
        rw [upd_upd]
        exact q _ _ _ _ _ (by omega) hx b1 (by omega) hn
      · refine iteN hb ?_
        exact q _ _ _ _ _ (by omega) (by omega) b1 (by omega) hn
    · refine iteN hi2 ?_
      exact done
  · refine iteN (fun e => h (by cases e; rfl)) ?_
    exact done
end
def S_draw : SF := fun ds K _ => ∃ a c n, ds = [.hnd a c, .int n] ∧ 0 < n ∧ n < 1073741824 ∧ ∀ r, 0 ≤ r → r < n → K (.int r)
theorem upd_id {H : Hp} {a : Addr} {o : HO} (h : H a = some o) : upd H a o = H := by
  funext b
  by_cases hb : b = a
  · subst hb; rw [upd_same, h]
  · rw [upd_ne hb]
theorem tr_hand {Hf Hh : Hp} {a c : Addr} {o o' : HO} (ha : Hh a = some o) (ok : HandOk c Hf o) (ok' : HandOk c Hf o') : Tr Hf Hh Hf (upd Hh a o') := by
  refine ⟨Sub.refl _, fun p c' u e k => ?_⟩
  · by_cases hp : p = a
    · subst hp
      rw [ha] at e; cases e
      obtain ⟨cs, i, l, m, n, e, _⟩ := ok
      obtain ⟨cs', i', l', m', n', e', _⟩ := k
      rw [e] at e'
      cases e'
      exact ⟨o', upd_same, ok'⟩
    · exact ⟨u, by rw [upd_ne hp]; exact e, k⟩
section
variable {P : Program} {w : World} {K : PySem.W.Frag} {mg : Str → Option Value} {base : Heap} {CA : String → Addr}
theorem draw_dfn {x qual : Str} {st : Stmt} {f : Addr} {fd : FuncData} {N ps : List Str} {k : Nat} (F : Fun K x qual st f fd) (Sc : FnScope N ps (defScope st)) (hm : mg x = some (.ref f)) (hb : Binds K fd ps []) (hN : N.length = 5) (hps : ps.length = 2)
    (der : ∀ (cdv : Value) (A : Around) (outer : List Env) (s : Shared) (H : Hp) (E : XK), Room k (A.deeper (envOfC qual (defScope st) s.heap.objs.size f cdv)) →
      PSs (cxOf (L2.CX P w) P w K mg base N qual (defScope st) f cdv A outer s H E) (defBody st) (drawT K)) : DFn P w K mg base CA (k + 1) x S_draw := by
  refine ⟨⟨f, fd, ps, F.okX Sc (fun vs H Q E ⟨Hf, Hh, Hx, ds, p, r, h⟩ => ?_) (fun cdv A outer s H vs Q E hr ⟨Hf, Hh, Hx, ds, p, r, h⟩ => ⟨_, der cdv A outer s H E hr, ?_⟩), hm, F.kp, hb⟩, fun ds K1 K2 X1 X2 hk hx ⟨a, c, n, e, h1, h2, h⟩ => ⟨a, c, n, e, h1, h2, fun r g1 g2 => hk _ (h r g1 g2)⟩⟩
  · obtain ⟨a, c, n, e, _⟩ := h
    rw [r.length, e, hps]; rfl
  · obtain ⟨a, c, n, rfl, h1, h2, h⟩ := h
    obtain ⟨v, u, rfl, r1, r2⟩ := r.two
    cases r1 with | hnd e ok =>
    cases r2
    have ok0 := ok
    obtain ⟨cs, i, l, m, nn, rfl, hc, hl63, hcs, hi, hl, hm0, hm1, hn⟩ := ok
    have hH := (p.h a _ e).1
    have hac : a ≠ c := fun z => by subst z; rw [(p.h a _ e).2.1] at hc; cases hc
    have hs : L2.start N [V.ref a, V.int n] = [some (.ref a), some (.int n), none, none, none] := by
      unfold L2.start
      rw [hN]; rfl
    rw [hs]
    have hu : ∀ o, SqL K (upd H a o) c (cs.map V.int) := fun o => SqL.of (by rw [upd_ne (Ne.symm hac)]; exact p.sub _ _ hc)
    have go : drawT K { nx := fun _ H' => Q .non H', rt := Q } [some (.ref a), some (.int n), none, none, none] (upd H a (hob c i l m nn)) := by
      refine draw1 (SqL.of (p.sub _ _ hc)) hac hcs hi hl ⟨hm0, hm1⟩ hn hu fun x2 i l m nn hi hl hm0 hm1 hn => ?_
      refine draw2 h1 h2 hi hl ⟨hm0, hm1⟩ hn fun r i l m nn g1 g2 hi hl hm0 hm1 hn => ?_
      have ok' : HandOk c Hf (hob c i l m nn) := ⟨cs, i, l, m, nn, rfl, hc, hl63, hcs, hi, hl, hm0, hm1, hn⟩
      exact h r g1 g2 _ _ Hf _ (tr_hand e ok0 ok') (p.setH e fun _ z => nomatch z) (.int r)
    have eH : upd H a (hob c i l m nn) = H := upd_id hH
    rw [eH] at go
    exact go
end
end DL

set_option Elab.async false
set_option linter.all false
set_option maxRecDepth 100000
set_option maxHeartbeats 4000000
namespace DL
open PySem PySem.Spec PyProof.Rows L2
variable [TabsC]
open Classical in
/-- what of a larger heap is of the hands and tables -/
noncomputable def extH (Hh H1 : Hp) : Hp := fun b => match H1 b with
  | some (.tbl ps) => some (.tbl ps)
  | some (.ext _) => none
  | some o => if Hh b = some o then some o else none
  | none => none
open Classical in
noncomputable def extF (Hh Hx H1 : Hp) : Hp := fun b => match H1 b with
  | some (.tbl _) => none
  | some (.ext φ) => some (.ext φ)
  | some o => if Hh b = some o ∨ Hx b = some o then none else some o
  | none => none
open Classical in
theorem Pt.ext {H Hf Hh Hx H1 : Hp} (P : Pt H Hf Hh Hx) (e : LamX.ExtN H H1) (t : LamX.Tabs TabsC.T H1) : Pt H1 (extF Hh Hx H1) (extH Hh H1) Hx ∧ Tr Hf Hh (extF Hh Hx H1) (extH Hh H1) := by
  have hx : ∀ a o, Hx a = some o → H1 a = some o := fun a o q => e a o (P.x a o q).1 fun ps z => (P.nb a ps).2 (by rw [q, z])
  have hh : ∀ a o, Hh a = some o → (∀ ps, o ≠ .tbl ps) → H1 a = some o := fun a o q n => e a o (P.h a o q).1 n
  have tb : ∀ a ps, H1 a = some (.tbl ps) → extH Hh H1 a = some (.tbl ps) ∧ extF Hh Hx H1 a = none := fun a ps q => by
    unfold extH extF
    rw [q]
    exact ⟨rfl, rfl⟩
  have et : ∀ a φ, H1 a = some (.ext φ) → extH Hh H1 a = none ∧ extF Hh Hx H1 a = some (.ext φ) := fun a ps q => by
    unfold extH extF
    rw [q]
    exact ⟨rfl, rfl⟩
  have nt : ∀ a o, H1 a = some o → (∀ ps, o ≠ .tbl ps) → (∀ φ, o ≠ .ext φ) → (extH Hh H1 a = if Hh a = some o then some o else none) ∧ extF Hh Hx H1 a = if Hh a = some o ∨ Hx a = some o then none else some o := fun a o q n n2 => by
    unfold extH extF
    rw [q]
    cases o with
    | tbl ps => exact absurd rfl (n ps)
    | ext φ => exact absurd rfl (n2 φ)
    | _ => exact ⟨rfl, rfl⟩
  have no : ∀ a, H1 a = none → extH Hh H1 a = none ∧ extF Hh Hx H1 a = none := fun a q => by
    unfold extH extF
    rw [q]
    exact ⟨rfl, rfl⟩
  have split : ∀ a, H1 a = none ∨ (∃ ps, H1 a = some (.tbl ps)) ∨ (∃ φ, H1 a = some (.ext φ)) ∨ ∃ o, H1 a = some o ∧ (∀ ps, o ≠ .tbl ps) ∧ ∀ φ, o ≠ .ext φ := fun a => by
    cases q : H1 a with
    | none => exact .inl rfl
    | some o =>
      cases o with
      | tbl ps => exact .inr (.inl ⟨ps, rfl⟩)
      | ext φ => exact .inr (.inr (.inl ⟨φ, rfl⟩))
      | _ => exact .inr (.inr (.inr ⟨_, rfl, (fun _ z => nomatch z), (fun _ z => nomatch z)⟩))
  have ff : ∀ a o, Hf a = some o → extF Hh Hx H1 a = some o := fun a o q2 => by
    have n : ∀ ps, o ≠ .tbl ps := fun ps z => (P.nb a ps).1 (by rw [q2, z])
    have z1 := e a o (P.f a o q2).1 n
    rcases split a with z | ⟨ps, z⟩ | ⟨φ, z⟩ | ⟨u, z, n, n2⟩
    · rw [z1] at z; cases z
    · rw [z1] at z; cases z; exact absurd rfl (n ps)
    · rw [z1] at z; cases z; exact (et a φ z1).2
    · rw [z1] at z; cases z
      rw [(nt a o z1 n n2).2, if_neg]
      rintro (z | z)
      · have := (P.f a o q2).2.1; rw [this] at z; cases z
      · have := (P.f a o q2).2.2; rw [this] at z; cases z
  refine ⟨⟨fun a o q => ?_, fun a o q => ?_, fun a o q => ?_, fun a o q => ?_, fun a vs => ⟨fun q => ?_, (P.nt a vs).2⟩, fun a ps => ⟨fun q => ?_, (P.nb a ps).2⟩, fun p hp => ?_, P.nx⟩, ⟨fun a o q => ff a o q, fun a c o q k => ?_⟩⟩
  · rcases split a with z | ⟨ps, z⟩ | ⟨φ, z⟩ | ⟨u, z, n, n2⟩
    · rw [(no a z).2] at q; cases q
    · rw [(tb a ps z).2] at q; cases q
    · rw [(et a φ z).2] at q; cases q
      refine ⟨z, (et a φ z).1, ?_⟩
      cases y : Hx a with
      | none => rfl
      | some v => have := hx a v y; rw [z] at this; cases this; exact absurd y (P.nx a φ)
    · rw [(nt a u z n n2).2] at q
      split at q
      · cases q
      · rename_i w
        cases q
        refine ⟨z, ?_, ?_⟩
        · rw [(nt a _ z n n2).1, if_neg fun y => w (.inl y)]
        · cases y : Hx a with
          | none => rfl
          | some v => have := hx a v y; rw [z] at this; cases this; exact absurd (.inr y) w
  · rcases split a with z | ⟨ps, z⟩ | ⟨φ, z⟩ | ⟨u, z, n, n2⟩
    · rw [(no a z).1] at q; cases q
    · rw [(tb a ps z).1] at q; cases q
      refine ⟨z, (tb a ps z).2, ?_⟩
      cases y : Hx a with
      | none => rfl
      | some v => have := hx a v y; rw [z] at this; cases this; exact absurd y (P.nb a ps).2
    · rw [(et a φ z).1] at q; cases q
    · rw [(nt a u z n n2).1] at q
      split at q
      · rename_i w
        cases q
        exact ⟨z, by rw [(nt a _ z n n2).2, if_pos (.inl w)], (P.h a _ w).2.2⟩
      · cases q
  · have n : ∀ ps, o ≠ .tbl ps := fun ps z => (P.nb a ps).2 (by rw [q, z])
    have n2 : ∀ φ, o ≠ .ext φ := fun φ z => P.nx a φ (by rw [q, z])
    have z := hx a o q
    refine ⟨z, by rw [(nt a o z n n2).2, if_pos (.inr q)], ?_⟩
    rw [(nt a o z n n2).1, if_neg]
    intro y; have := (P.x a o q).2.2; rw [this] at y; cases y
  · rcases split a with z | ⟨ps, z⟩ | ⟨φ, z⟩ | ⟨u, z, n, n2⟩
    · rw [q] at z; cases z
    · rw [q] at z; cases z; exact .inr (.inl (tb a ps q).1)
    · rw [q] at z; cases z; exact .inl (et a φ q).2
    · rw [q] at z; cases z
      by_cases y : Hh a = some o
      · exact .inr (.inl (by rw [(nt a o q n n2).1, if_pos y]))
      · by_cases w : Hx a = some o
        · exact .inr (.inr w)
        · refine .inl ?_
          rw [(nt a o q n n2).2, if_neg]
          rintro (r | r)
          · exact y r
          · exact w r
  · rcases split a with z | ⟨ps, z⟩ | ⟨φ, z⟩ | ⟨u, z, n, n2⟩
    · rw [(no a z).1] at q; cases q
    · rw [(tb a ps z).1] at q; cases q
    · rw [(et a φ z).1] at q; cases q
    · rw [(nt a u z n n2).1] at q
      split at q
      · rename_i w; cases q; exact (P.nt a _).1 w
      · cases q
  · rcases split a with z | ⟨ps, z⟩ | ⟨φ, z⟩ | ⟨u, z, n, n2⟩
    · rw [(no a z).2] at q; cases q
    · rw [(tb a _ z).2] at q; cases q
    · rw [(et a φ z).2] at q; cases q
    · rw [(nt a u z n n2).2] at q
      split at q
      · cases q
      · cases q; exact n _ rfl
  · obtain ⟨ps, h1, h2, h3⟩ := t p hp
    refine ⟨ps, (tb _ _ h1).1, h2, fun pos cv hc => ?_⟩
    obtain ⟨c, e1, e2⟩ := h3 pos cv hc
    refine ⟨c, e1, ?_⟩
    unfold LamX.CodeO at e2 ⊢
    exact (et c _ e2).2
  · obtain ⟨cs, i, l, m, n, rfl, hc, r⟩ := k
    have w := hh a _ q fun ps z => nomatch z
    exact ⟨_, by rw [(nt a _ w (fun ps z => nomatch z) fun ps z => nomatch z).1, if_pos q], cs, i, l, m, n, rfl, ff c _ hc, r⟩
def retHW (f : WE) : WS := fun ρ k => f (view false ρ) (fun d => ∃ (cs : List Int) (i l m n : Int), d = .list [.list (cs.map D.int), .int i, .int l, .int m, .int n] ∧
  (cs.length ≤ 63 ∧ (∀ x ∈ cs, 0 ≤ x) ∧ 0 ≤ i ∧ 0 ≤ l ∧ 0 ≤ m ∧ m < 2 ^ 62 ∧ 0 ≤ n) ∧ ∀ a c, k.rt (.hnd a c)) k.xc
theorem Pt.newH {H Hf Hh Hx : Hp} {p : Addr} {o : HO} (P : Pt H Hf Hh Hx) (h : H p = none) (ho : ∀ vs, o ≠ .tup vs) : Pt (upd H p o) Hf (upd Hh p o) Hx := by
  obtain ⟨nf, nh, nx⟩ := P.fresh h
  refine ⟨fun b u e => ?_, fun b u e => ?_, fun b u e => ?_, fun b u e => ?_, fun b vs => ⟨fun e => ?_, (P.nt b vs).2⟩, P.nb, fun q hq => ?_, P.nx⟩
  · have hb : b ≠ p := fun z => by subst z; rw [nf] at e; cases e
    rw [upd_ne hb, upd_ne hb]; exact P.f b u e
  · by_cases hb : b = p
    · subst hb; rw [upd_same] at e; cases e; exact ⟨upd_same, nf, nx⟩
    · rw [upd_ne hb] at e; rw [upd_ne hb]; exact P.h b u e
  · have hb : b ≠ p := fun z => by subst z; rw [nx] at e; cases e
    rw [upd_ne hb, upd_ne hb]; exact P.x b u e
  · by_cases hb : b = p
    · subst hb; rw [upd_same] at e; cases e; exact .inr (.inl upd_same)
    · rw [upd_ne hb] at e; rw [upd_ne hb]; exact P.c b u e
  · by_cases hb : b = p
    · subst hb; rw [upd_same] at e; exact ho _ (Option.some.inj e)
    · rw [upd_ne hb] at e; exact (P.nt b vs).1 e
  · obtain ⟨ps, h1, h2, h3⟩ := P.tb q hq
    exact ⟨ps, by rw [upd_ne (ne_of_none h1 nh)]; exact h1, h2, h3⟩
section
variable {X : Cx} {xw : XW}
theorem sd_retH {e : Expr} {f : WE} {pos : Pos} (h : FD X xw e f) : SD X xw (.Return (some e) pos) (retHW f) := by
  refine ⟨PS.imp (ps_ret h.pe) fun Dn σ H ⟨HxC, Hf, Hh, Hx, ρ, P, S, q⟩ => ?_, fun ρ k1 k2 l q => h.mo _ _ _ _ _ (fun d ⟨cs, i, l', m, n, e, c, q⟩ => ⟨cs, i, l', m, n, e, c, fun a c => l.rt _ (q a c)⟩) (fun c q => l.xc _ q) q⟩
  refine stF h.mo false P S q (fun d hd p o H' Hf2 Hh' t2 p2 hp s2 r => ?_) (fun c hc => hc)
  obtain ⟨cs, i, l, m, n, rfl, ⟨c1, c2, c3, c4, c5, c6, c7⟩, q⟩ := hd
  have r := r (fun z => by cases z)
  obtain ⟨vs, rfl, z, r⟩ := (r : ∃ vs, o = .lst vs ∧ _)
  cases r with | cons r1 r =>
  cases r with | cons r2 r =>
  cases r with | cons r3 r =>
  cases r with | cons r4 r =>
  cases r with | cons r5 r =>
  cases r; cases r2; cases r3; cases r4; cases r5
  cases r1 with | list e1 z1 r1 =>
  have := r1.ints; subst this
  rename_i c
  obtain ⟨Hf3, s3, p3⟩ := collapse (p2.newH (o := .lst [.ref c, .int i, .int l, .int m, .int n]) hp (fun _ z => nomatch z)) s2.sub
  have nh := (p2.fresh hp).2.1
  have t4 : Tr Hf2 Hh' Hf2 (upd Hh' p (.lst [.ref c, .int i, .int l, .int m, .int n])) := ⟨Sub.refl _, fun a c o e k => ⟨o, by rw [upd_ne (ne_of_none e nh)]; exact e, k⟩⟩
  exact q p c _ _ Hf3 _ (t2.trans (t4.trans (Tr.sub s3))) p3 (.hnd upd_same ⟨cs, i, l, m, n, rfl, s3 _ _ e1, c1, c2, c3, c4, c5, c6, c7⟩)
/-- what the def makes of the lambda: told, or the word of the exception's class -/
def TTw (CA : String → Addr) (tellS : Str) (tell : String → Option Str) : (XK → Hp → VK → Prop) → Hp → VK → Prop := fun tl H Q =>
  tl (fun cls d H' => ∃ c t, cls = .ref (CA c) ∧ d = none ∧ tell c = some t ∧ ∀ H'', Sub H' H'' → Q (.str t) H'') H (fun _ H' => Q (.str tellS) H')
structure WordD (P : Program) (w : World) (K : PySem.W.Frag) (mg : Str → Option Value) (base : Heap) (CA : String → Addr) (x : Str) (tellS : Str) (tell : String → Option Str) : Prop where
  ex : ∃ (g : Addr) (fd : FuncData) (st : Stmt) (a : Str) (Ng : List Str), Fun K x x st g fd ∧ mg x = some (.ref g) ∧ Binds K fd [a] [] ∧ FnScope Ng [a] (defScope st) ∧ Ng[0]? = some a ∧ Vis (defScope st) a ∧ (a == ("__debug__" : Str)) = false ∧ (a == ("__classdict__" : Str)) = false ∧
    ∀ (X : Cx) (q : Str) (cdg : Value), X.prog = P → X.w = w → X.K = K → X.mg = mg → X.base = base → LamX.GivesTo X Ng x (defScope st) g cdg (defBody st) a q (TTw CA tellS tell)
def lamW (tellS : Str) (tell : String → Option Str) (f : WE) : WE := fun ρ K _ => f ρ (fun _ => K (.str tellS)) (fun c => ∃ t, tell c = some t ∧ K (.str t))
theorem mono_lam {tellS : Str} {tell : String → Option Str} {f : WE} (m : MonoE f) : MonoE (lamW tellS tell f) := fun ρ K1 K2 X1 X2 hk hx h => m _ _ _ _ _ (fun d q => hk _ q) (fun c ⟨t, e, q⟩ => ⟨t, e, hk _ q⟩) h
theorem tabs_of {H Hf Hh Hx : Hp} (P : Pt H Hf Hh Hx) : LamX.Tabs TabsC.T H := fun p hp => by
  obtain ⟨ps, h1, h2, h3⟩ := P.tb p hp
  refine ⟨ps, (P.h _ _ h1).1, h2, fun pos cv hc => ?_⟩
  obtain ⟨c, e1, e2⟩ := h3 pos cv hc
  exact ⟨c, e1, (P.f _ _ e2).1⟩
theorem ctx_lam {CA : String → Addr} {A : Around} {outer : List Env} {s : Shared} {H : Hp} {E : XK} {scope : Scope} {f c' : Addr} : Ctx (LamX.lamCx X A outer s H E scope f c') CA (XWof CA E) :=
  by
  have tk : Takes (LamX.lamCx X A outer s H E scope f c') (fun cls d _ H => EX CA (XWof CA E) cls d H) := (takes_of (X := LamX.lamCx X A outer s H E scope f c') (E := E) rfl rfl rfl rfl).imp fun cls d σ H ⟨c, e1, e2, h⟩ => by subst e1 e2; exact h
  exact ⟨rfl, fun σ => passAt tk σ⟩
theorem ed_lam {CA : String → Addr} {x tellS : Str} {tell : String → Option Str} {c P : Addr} {k : Nat} {params : Arguments} {body : Expr} {scope : Scope} {f : WE} {p lpos pos : Pos} (Wd : WordD X.prog X.w X.K X.mg X.base CA x tellS tell)
    (TB : LamX.TabB X.base X.mg c P) (hcode : X.env.code = .ref c) (hmT : (P, X.env.qual ++ "<lambda>") ∈ TabsC.T) (hu : ∀ p ∈ TabsC.T, p.1 = P → p.2 = X.env.qual ++ "<lambda>") (hr : Room (k + 2) X.A) (L : LamX.LamS X.env.scope scope) (hg : Gl X x) (mf : MonoE f)
    (hbody : ∀ (A : Around) (outer : List Env) (s : Shared) (H : Hp) (E : XK) (f' c' : Addr), Room k (A.deeper (LamX.lamEnv X scope s.heap.objs.size f' c')) → Ctx (LamX.lamCx X A outer s H E scope f' c') CA (XWof CA E) → ED (LamX.lamCx X A outer s H E scope f' c') (XWof CA E) body f)
    (hdef : defaultsOf params X.env = ([], []) := by rfl)
    (hbind : ∀ (q : Str) (cl : List (Str × Addr)) (pm cv ctv : Value), bindArgs (PySem.W.kla_fn "<lambda>" q params body scope cl pm cv ctv) ⟨[], []⟩ = pure [] := by intros; rfl)
    (hdb : (x == ("__debug__" : Str)) = false := by decide) : ED X xw (.Call (.Name x p) [.Lambda params body scope lpos] [] pos) (lamW tellS tell f) := by
  obtain ⟨g, fd, st, a, Ng, F, hm, hb, Sg, hNg, hva, hd, hcd, hG⟩ := Wd.ex
  obtain ⟨oc, od, kV, doc, pm, an, cdv, ct, osl, rfl, lk, hcg⟩ := F.ex
  refine ⟨PE.imp (LamX.pe_lamcall (t := fun E => LE X.K (XWof CA E) f) hg hm F.kp lk hcg hb Sg hNg hva (hG X _ cdv rfl rfl rfl rfl rfl) TB hcode hmT hu hr L hdef hbind (fun A outer s H E f' c' hr => (hbody A outer s H E f' c' hr ctx_lam).pe) hdb hd hcd) fun σ H Q ⟨Hf, Hh, Hx, ρ, Pp, S, q⟩ => ?_, mono_lam mf⟩
  refine ⟨tabs_of Pp, fun H1 eN T1 => ?_⟩
  obtain ⟨P1, t1⟩ := Pp.ext eN T1
  refine LE.at mf P1 (S.mono t1) q (fun d hd v H' Hf' Hh' T' P' R' => ?_) (fun c ⟨t, et, hq⟩ H' Hf' Hh' T' P' => ?_)
  · exact hd _ H' Hf' Hh' (t1.trans T') P' (.str _)
  · refine ⟨c, t, rfl, rfl, et, fun H'' s => ?_⟩
    obtain ⟨P2, t2⟩ := P'.ext (LamX.ExtN.of s) ((tabs_of P').ext s)
    exact hq _ H'' _ _ (t1.trans (T'.trans t2)) P2 (.str _)
end
end DL

set_option Elab.async false
set_option linter.all false
set_option maxRecDepth 100000
set_option maxHeartbeats 4000000
namespace DL
open PySem PySem.Spec PyProof.Rows L2
variable [TabsC]
/-- xs.count(True) of truth values -/
def rCntB (K : PySem.W.Frag) : V → List V → Hp → VK → Prop := fun x xs H Q => ∃ (p : Addr) (bs : List Bool), x = .ref p ∧ xs = [.bl true] ∧ SqL K H p (bs.map V.bl) ∧ Q (.int (bs.count true : Nat)) H
def boolOf : Value → Bool
  | .bool b => b
  | _ => false
theorem vals_bools : ∀ {bs : List Bool} {us : List Value}, Vals (bs.map V.bl) us → us = bs.map Value.bool
  | [], _, .nil => rfl
  | b :: bs, _, .cons h t => by
    have h : _ = Value.bool b := h
    rw [vals_bools t, h]; rfl
theorem count_bools : ∀ bs : List Bool, (bs.map Value.bool).countP boolOf = bs.count true
  | [] => rfl
  | b :: bs => by
    rw [List.map_cons, List.countP_cons, count_bools bs, List.count_cons]
    cases b <;> rfl
theorem mt_countB {X : Cx} : MtR X "list.count" (rCntB X.K) := by
  intro pins s σ H x xs v us Q I rx rxs h
  obtain ⟨p, bs, rfl, rfl, hs, q⟩ := h
  cases rx
  obtain ⟨u, rfl, ru⟩ := rxs.one
  have ru : u = Value.bool true := ru
  subst ru
  obtain ⟨its, rv, ⟨⟨cls, dd, data, sl⟩, n, ho, hc, hdn, hd⟩, hlen⟩ := I.list hs
  simp only at hc hd
  subst hc hd
  have e := vals_bools rv
  subst e
  refine call_meets PySem.F.slot_list_count ⟨_, ho, rfl⟩ PySem.F.entry_list_count (PySem.F.args_list_count_2 _ _) (SeqAt.list_countAt p _ n dd sl (.bool true) boolOf) ⟨ho, fun y hy => ?_, ?_⟩
  · obtain ⟨b, hb, e⟩ := List.mem_map.mp (show y ∈ bs.map Value.bool by simpa using hy)
    subst e
    have := eqAt_V (A := X.A.in1) (s := s) (y := .bl b) (x := .bl true) (u := .bool b) (v := .bool true) rfl rfl rfl rfl
    have e2 : eqV (.bl b) (.bl true) = boolOf (.bool b) := by cases b <;> rfl
    rw [e2] at this
    exact this
  · refine ⟨.int (bs.count true : Nat), H, I.tok _, ⟨s.toks, ?_⟩, q⟩
    show Value.int (((bs.map Value.bool).toArray.toList.countP boolOf : Nat) : Int) s.toks = Value.int ((bs.count true : Nat) : Int) s.toks
    have e3 : (bs.map Value.bool).toArray.toList.countP boolOf = bs.count true := count_bools bs
    rw [e3]
section
variable (K : PySem.W.Frag)
def flagsT (D a : Addr) (i : Nat) : List Addr → TA
  | [] => tNil
  | c :: cs => tCons (tCB (rIsE K D a) (tCons (tVar i) (tCons (tC (.ref c)) tNil))) (flagsT D a i cs)
def strsT : List Str → TA
  | [] => tNil
  | w :: ws => tCons (tC (.str w)) (strsT ws)
def suiteT (D a : Addr) (i j : Nat) (cs : List Addr) (ws : List Str) : TS :=
  tSeq (tAsg (tLst (flagsT K D a i cs)) (gName j)) (tRet (tIf (tTest (tOp rEq (tBM K "list" (rCntB K) (tVar j) (tCons (tC (.bl true)) tNil)) (tC (.int 1))))
    (tOp (rIx K) (tLst (strsT ws)) (tBM K "list" (rIndex K) (tVar j) (tCons (tC (.bl true)) tNil))) (tC (.str "other"))))
end
variable {K : PySem.W.Frag}
theorem flags_ok {D a : Addr} {i : Nat} {b : Addr → Bool} {σ : L2.St} {H : Hp} (e : σ[i]? = some (some (.ref a))) : ∀ (cs : List Addr) (Q : List V → Hp → Prop), (∀ c ∈ cs, PySem.W.kitOne K (.ref D) (.ref c) = some (b c)) → Q (cs.map fun c => V.bl (b c)) H → flagsT K D a i cs σ H Q
  | [], Q, _, q => q
  | c :: cs, Q, hk, q => by
    refine ⟨_, e, .ref c, .ref c, b c, rfl, fun u r => r, hk c (List.mem_cons_self ..), ?_⟩
    exact flags_ok e cs _ (fun d hd => hk d (List.mem_cons_of_mem _ hd)) q
theorem strs_ok {σ : L2.St} {H : Hp} : ∀ (ws : List Str) (Q : List V → Hp → Prop), Q (ws.map V.str) H → strsT ws σ H Q
  | [], Q, q => q
  | w :: ws, Q, q => strs_ok ws (fun xs H => Q (V.str w :: xs) H) q
def tellOf : List String → List Str → String → Str
  | n :: ns, w :: ws, c => if n = c then w else tellOf ns ws c
  | _, _, _ => "other"
theorem tell_no {c : String} : ∀ {ns : List String} {ws : List Str}, c ∉ ns → tellOf ns ws c = "other"
  | [], _, _ => by cases ‹List Str› <;> rfl
  | n :: ns, [], _ => rfl
  | n :: ns, w :: ws, h => by
    rw [tellOf, if_neg (fun e => h (by simp [e])), tell_no fun z => h (by simp [z])]
theorem tell_at {c : String} : ∀ {ns : List String} {ws : List Str}, c ∈ ns → ns.length = ws.length → ∃ k : Nat, ns[k]? = some c ∧ ws[k]? = some (tellOf ns ws c) ∧ ∀ m n, m < k → ns[m]? = some n → n ≠ c
  | n :: ns, w :: ws, h, hl => by
    by_cases e : n = c
    · exact ⟨0, by simp [e], by simp [tellOf, e], fun m _ hm => absurd hm (Nat.not_lt_zero m)⟩
    · have h : c ∈ ns := by rcases List.mem_cons.mp h with z | z; exact absurd z.symm e; exact z
      obtain ⟨k, h1, h2, h3⟩ := tell_at (ws := ws) h (by simpa using hl)
      refine ⟨k + 1, by simpa using h1, by rw [tellOf, if_neg e]; simpa using h2, fun m n' hm hn => ?_⟩
      cases m with
      | zero => simp at hn; rw [← hn]; exact e
      | succ m => exact h3 m n' (by omega) (by simpa using hn)
theorem count_in {c : String} : ∀ {ns : List String}, ns.Nodup → ((ns.map fun n => decide (n = c)).count true) = if c ∈ ns then 1 else 0
  | [], _ => rfl
  | n :: ns, h => by
    rw [List.nodup_cons] at h
    rw [List.map_cons, List.count_cons, count_in h.2]
    by_cases e : n = c
    · subst e; simp [h.1]
    · have : ¬ c = n := fun z => e z.symm
      simp [e, this]
theorem suite_ok {CA : String → Addr} {c : String} {a : Addr} {i j : Nat} {ns : List String} {ws : List Str} {σ : L2.St} {H : Hp} {Dn : Ends} (e : σ[i]? = some (some (.ref a))) (hj : j < σ.length) (hn : ns.Nodup) (hl : ns.length = ws.length) (hz : ns.length ≤ 1000)
    (hk : ∀ n ∈ ns, PySem.W.kitOne K (.ref (CA c)) (.ref (CA n)) = some (decide (n = c))) (hinj : ∀ n ∈ ns, ∀ m ∈ ns, CA n = CA m → n = m)
    (q : ∀ H'', Sub H H'' → Dn.rt (.str (tellOf ns ws c)) H'') : suiteT K (CA c) a i j (ns.map CA) ws Dn σ H := by
  classical
  have zl : ∀ {α : Type} (l : List α), l.length ≤ 1000 → l.length ≤ sizeLine := fun l h => by rw [sizeLine_eq]; omega
  -- the flags by the class's address
  let b : Addr → Bool := fun A => decide (∃ n ∈ ns, CA n = A ∧ n = c)
  have hb : ∀ n ∈ ns, b (CA n) = decide (n = c) := fun n hn' => by
    show decide _ = _
    by_cases z : n = c
    · rw [decide_eq_true z, decide_eq_true ⟨n, hn', rfl, z⟩]
    · rw [decide_eq_false z, decide_eq_false]
      rintro ⟨m, hm, e1, e2⟩
      exact z ((hinj n hn' m hm e1.symm).trans e2)
  have hm : ((ns.map CA).map fun A => V.bl (b A)) = (ns.map fun n => decide (n = c)).map V.bl := by
    rw [List.map_map, List.map_map]
    exact List.map_congr_left fun n hn' => by show V.bl (b (CA n)) = _; rw [hb n hn']; rfl
  refine flags_ok (b := b) e (ns.map CA) _ (fun A hA => ?_) ⟨?_, fun p hp => ?_⟩
  · obtain ⟨n, hn', rfl⟩ := List.mem_map.mp hA
    rw [hb n hn']; exact hk n hn'
  · rw [List.length_map, List.length_map]; exact zl ns hz
  · rw [hm]
    have sj : (σ.set j (some (V.ref p)))[j]? = some (some (V.ref p)) := by rw [List.getElem?_set_self hj]
    have sq : SqL K (upd H p (.lst ((ns.map fun n => decide (n = c)).map V.bl))) p ((ns.map fun n => decide (n = c)).map V.bl) := SqL.of upd_same
    have s1 : Sub H (upd H p (.lst ((ns.map fun n => decide (n = c)).map V.bl))) := Sub.new hp
    refine ⟨_, sj, .inl ⟨rfl, _, sq⟩, p, ns.map (fun n => decide (n = c)), rfl, rfl, sq, rfl, ?_⟩
    rw [count_in hn]
    refine ⟨_, rfl, ?_⟩
    by_cases hc : c ∈ ns
    · rw [if_pos hc]
      refine iteP rfl ?_
      obtain ⟨k, h1, h2, h3⟩ := tell_at hc hl
      refine strs_ok ws _ ⟨by rw [List.length_map, ← hl]; exact zl ns hz, fun r hr => ?_⟩
      have nr : r ≠ p := fun z => by rw [z, upd_same] at hr; cases hr
      have sq2 : SqL K (upd (upd H p (.lst ((ns.map fun n => decide (n = c)).map V.bl))) r (.lst (ws.map V.str))) p ((ns.map fun n => decide (n = c)).map V.bl) := SqL.of (by rw [upd_ne (Ne.symm nr)]; exact upd_same)
      refine ⟨_, sj, .inl ⟨rfl, _, sq2⟩, p, _, .bl true, k, .bl true, rfl, rfl, sq2, rfl, ?_, ?_, rfl, fun m z' hm' hz' => ?_, ?_⟩
      · rw [List.all_eq_true]
        intro v hv
        obtain ⟨x, _, rfl⟩ := List.mem_map.mp hv
        rfl
      · rw [List.getElem?_map, List.getElem?_map, h1]
        simp
      · rw [List.getElem?_map, List.getElem?_map] at hz'
        cases e4 : ns[m]? with
        | none => rw [e4] at hz'; cases hz'
        | some n =>
          rw [e4] at hz'
          have := h3 m n hm' e4
          simp [this] at hz'
          subst hz'; rfl
      · refine .inl ⟨r, ws.map V.str, k, .str (tellOf ns ws c), rfl, rfl, SqL.of upd_same, ?_, q _ (s1.trans (Sub.new hr))⟩
        have hk' : k < ws.length := by
          rcases Nat.lt_or_ge k ws.length with z | z
          · exact z
          · rw [List.getElem?_eq_none z] at h2; cases h2
        unfold L2.atI ixN
        rw [if_pos (by omega), List.length_map, if_pos (by omega)]
        show (ws.map V.str)[((k : Nat) : Int).toNat]? = _
        rw [Int.toNat_natCast, List.getElem?_map, h2]; rfl
    · rw [if_neg hc]
      refine iteN (fun z => by cases z) ?_
      rw [tell_no hc] at q
      exact q _ s1
end DL
namespace DL
open PySem PySem.Spec PyProof.Rows L2
/-- the facts of the classes that such a def asks for -/
structure ExcA (K : PySem.W.Frag) (mg : Str → Option Value) (CA : String → Addr) (pn : String) (names known : List String) : Prop where
  pe : mg (Str.ofString pn) = some (.ref (CA pn))
  nm : ∀ n ∈ names, mg (Str.ofString n) = some (.ref (CA n))
  inj : ∀ n ∈ names, ∀ m ∈ names, CA n = CA m → n = m
  exc : ∀ c ∈ known, ExcC K (CA c)
  exm : ∀ c ∈ known, PySem.W.exmOne K (.ref (CA c)) (.ref (CA pn)) = some true
  kit : ∀ c ∈ known, ∀ n ∈ names, PySem.W.kitOne K (.ref (CA c)) (.ref (CA n)) = some (decide (n = c))
theorem pss_exc {Y : Cx} {ss : List Stmt} {p : String → Prop} {t : String → TS} {n : Nat} (hl : Y.N.length = n) (h : ∀ c, p c → PSs Y ss (t c)) : PSs Y ss (fun D σ H => σ.length = n → ∃ c, p c ∧ t c D σ H) :=
  ⟨fun pins s σ H D I z => by
    obtain ⟨c, hp, hq⟩ := z (I.len.trans hl)
    exact (h c hp).run pins s σ H D I hq⟩
end DL
namespace DL
open PySem PySem.Spec PyProof.Rows L2
/-- the facts of a def that makes lambdas -/
structure LamC [TabsC] (base : Heap) (mg : Str → Option Value) (cdv : Value) (c P : Addr) (q : Str) : Prop where
  tb : LamX.TabB base mg c P
  cd : cdv = .ref c
  mt : (P, q ++ "<lambda>") ∈ TabsC.T
  hu : ∀ p ∈ TabsC.T, p.1 = P → p.2 = q ++ "<lambda>"
theorem ed_lamb [TabsC] {X : Cx} {xw : XW} {CA : String → Addr} {x tellS : Str} {tell : String → Option Str} {c P : Addr} {k : Nat} {params : Arguments} {body : Expr} {scope : Scope} {f : WE} {p lpos pos : Pos} (Wd : WordD X.prog X.w X.K X.mg X.base CA x tellS tell)
    (Lm : LamC X.base X.mg X.env.code c P X.env.qual) (hr : Room (k + 2) X.A) (L : LamX.LamS X.env.scope scope) (hg : Gl X x)
    (hbody : ∀ (A : Around) (outer : List Env) (s : Shared) (H : Hp) (E : XK) (f' c' : Addr), Room k (A.deeper (LamX.lamEnv X scope s.heap.objs.size f' c')) → Ctx (LamX.lamCx X A outer s H E scope f' c') CA (XWof CA E) → ED (LamX.lamCx X A outer s H E scope f' c') (XWof CA E) body f)
    (hdef : defaultsOf params X.env = ([], []) := by rfl)
    (hbind : ∀ (q : Str) (cl : List (Str × Addr)) (pm cv ctv : Value), bindArgs (PySem.W.kla_fn "<lambda>" q params body scope cl pm cv ctv) ⟨[], []⟩ = pure [] := by intros; rfl)
    (hdb : (x == ("__debug__" : Str)) = false := by decide) : ED X xw (.Call (.Name x p) [.Lambda params body scope lpos] [] pos) (lamW tellS tell f) :=
  ed_lam Wd Lm.tb Lm.cd Lm.mt Lm.hu hr L hg (hbody X.A [] X.s_0 (fun _ => none) (fun _ _ _ => False) 0 0 ((Room.deeper (k := k + 1) hr _).mono (Nat.le_succ k)) ctx_lam).mo hbody hdef hbind hdb
end DL

set_option Elab.async false
set_option linter.all false
set_option maxRecDepth 100000
set_option maxHeartbeats 4000000
namespace DL
open PySem PySem.Spec PyProof.Rows L2
variable [TabsC]
section
variable {P : Program} {w : World} {K : PySem.W.Frag} {mg : Str → Option Value} {base : Heap} {CA : String → Addr}
theorem dfn_okC {x qual q : Str} {st : Stmt} {f lc lp : Addr} {fd : FuncData} {N ps : List Str} {k : Nat} {S : SF} {W : WS} (F : Fun K x qual st f fd) (Sc : FnScope N ps (defScope st)) (hm : mg x = some (.ref f)) (hb : Binds K fd ps []) (mo : MonoS S)
    (len : ∀ ds Kr Kx, S ds Kr Kx → ds.length = ps.length) (lm : LamC base mg fd.code lc lp q)
    (der : ∀ (cdv : Value) (_ : LamC base mg cdv lc lp q) (A : Around) (outer : List Env) (s : Shared) (H : Hp) (E : XK), Room k (A.deeper (envOfC qual (defScope st) s.heap.objs.size f cdv)) →
      Ctx (cxOf (L2.CX P w) P w K mg base N qual (defScope st) f cdv A outer s H E) CA (XWof CA E) → SDs (cxOf (L2.CX P w) P w K mg base N qual (defScope st) f cdv A outer s H E) (XWof CA E) (defBody st) W)
    (rd : ∀ ds Kr Kx, S ds Kr Kx → W (startE N ds) ⟨fun _ => Kr .non, Kr, fun _ => False, fun _ => False, Kx⟩) : DFn P w K mg base CA (k + 1) x S := by
  refine ⟨⟨f, fd, ps, ?_, hm, F.kp, hb⟩, mo⟩
  obtain ⟨oc, od, kV, doc, pm, an, cdv, ct, osl, rfl, lk, hcd⟩ := F.ex
  refine fn_of lk hcd Sc (fun vs H Q E ⟨Hf, Hh, Hx, ds, p, r, h⟩ => by rw [r.length]; exact len _ _ _ h) (fun A outer s H vs Q E hr ⟨Hf, Hh, Hx, ds, p, r, h⟩ => ?_)
  have tk := ctx_def (P := P) (w := w) (K := K) (mg := mg) (base := base) (CA := CA) (N := N) (qual := qual) (sc := defScope st) (f := f) (cdv := cdv) (A := A) (outer := outer) (s := s) (H := H) (E := E)
  have d := der cdv lm A outer s H E hr ⟨rfl, fun σ => (passAt tk σ)⟩
  refine ⟨_, d.ps, ?_⟩
  refine LS.at d.mo p (start_ss r) (rd _ _ _ h) ⟨fun ρ q σ' H' Hf' Hh' Hx' T P' S' => ?_, fun dd q => q, fun _ q => q.elim, fun _ q => q.elim, fun c q => q⟩
  obtain ⟨Hf3, s3, p3⟩ := collapse P' S'.sub
  exact q .non H' Hf3 Hh' (T.trans (Tr.sub s3)) p3 .non
end
end DL

set_option Elab.async false
set_option linter.all false
set_option maxRecDepth 100000
set_option maxHeartbeats 4000000
namespace DL
open PySem PySem.Spec PyProof.Rows L2
theorem kb_NoneType_int : kitB "NoneType" "int" = some false := by decide +kernel
theorem kb_NoneType_str : kitB "NoneType" "str" = some false := by decide +kernel
theorem kb_NoneType_list : kitB "NoneType" "list" = some false := by decide +kernel
theorem kb_NoneType_tuple : kitB "NoneType" "tuple" = some false := by decide +kernel
theorem kb_NoneType_dict : kitB "NoneType" "dict" = some false := by decide +kernel
theorem kb_NoneType_bool : kitB "NoneType" "bool" = some false := by decide +kernel
theorem kb_bool_int : kitB "bool" "int" = some true := by decide +kernel
theorem kb_bool_str : kitB "bool" "str" = some false := by decide +kernel
theorem kb_bool_list : kitB "bool" "list" = some false := by decide +kernel
theorem kb_bool_tuple : kitB "bool" "tuple" = some false := by decide +kernel
theorem kb_bool_dict : kitB "bool" "dict" = some false := by decide +kernel
theorem kb_bool_bool : kitB "bool" "bool" = some true := by decide +kernel
theorem kb_int_int : kitB "int" "int" = some true := by decide +kernel
theorem kb_int_str : kitB "int" "str" = some false := by decide +kernel
theorem kb_int_list : kitB "int" "list" = some false := by decide +kernel
theorem kb_int_tuple : kitB "int" "tuple" = some false := by decide +kernel
theorem kb_int_dict : kitB "int" "dict" = some false := by decide +kernel
theorem kb_int_bool : kitB "int" "bool" = some false := by decide +kernel
theorem kb_str_int : kitB "str" "int" = some false := by decide +kernel
theorem kb_str_str : kitB "str" "str" = some true := by decide +kernel
theorem kb_str_list : kitB "str" "list" = some false := by decide +kernel
theorem kb_str_tuple : kitB "str" "tuple" = some false := by decide +kernel
theorem kb_str_dict : kitB "str" "dict" = some false := by decide +kernel
theorem kb_str_bool : kitB "str" "bool" = some false := by decide +kernel
theorem kb_list_int : kitB "list" "int" = some false := by decide +kernel
theorem kb_list_str : kitB "list" "str" = some false := by decide +kernel
theorem kb_list_list : kitB "list" "list" = some true := by decide +kernel
theorem kb_list_tuple : kitB "list" "tuple" = some false := by decide +kernel
theorem kb_list_dict : kitB "list" "dict" = some false := by decide +kernel
theorem kb_list_bool : kitB "list" "bool" = some false := by decide +kernel
theorem kb_tuple_int : kitB "tuple" "int" = some false := by decide +kernel
theorem kb_tuple_str : kitB "tuple" "str" = some false := by decide +kernel
theorem kb_tuple_list : kitB "tuple" "list" = some false := by decide +kernel
theorem kb_tuple_tuple : kitB "tuple" "tuple" = some true := by decide +kernel
theorem kb_tuple_dict : kitB "tuple" "dict" = some false := by decide +kernel
theorem kb_tuple_bool : kitB "tuple" "bool" = some false := by decide +kernel
theorem kb_dict_int : kitB "dict" "int" = some false := by decide +kernel
theorem kb_dict_str : kitB "dict" "str" = some false := by decide +kernel
theorem kb_dict_list : kitB "dict" "list" = some false := by decide +kernel
theorem kb_dict_tuple : kitB "dict" "tuple" = some false := by decide +kernel
theorem kb_dict_dict : kitB "dict" "dict" = some true := by decide +kernel
theorem kb_dict_bool : kitB "dict" "bool" = some false := by decide +kernel
theorem forL_ind {T : Tgt} {f : WS} {k : SK} (I : Nat → SEnv → Prop) : ∀ (ds : List D) (n : Nat) (ρ : SEnv), I n ρ →
    (∀ i d ρ, ds[i]? = some d → I (n + i) ρ → ∃ bs, T.bs d = some bs ∧ ∀ nxt : SEnv → Prop, (∀ ρ', I (n + i + 1) ρ' → nxt ρ') → f (setE ρ (bs.map fun b => (b.1, SV.fz b.2))) { k with nx := nxt, ct := nxt, bk := k.nx }) →
    (∀ ρ, I (n + ds.length) ρ → k.nx ρ) → forL T f ds ρ k
  | [], n, ρ, h0, _, he => he ρ h0
  | d :: ds, n, ρ, h0, st, he => by
    rw [forL]
    obtain ⟨bs, e, h⟩ := st 0 d ρ rfl h0
    rw [e]
    refine h _ fun ρ' h1 => forL_ind I ds (n + 1) ρ' h1 (fun i d' ρ2 hd hi => ?_) fun ρ2 h2 => he ρ2 (by rw [List.length_cons]; rw [show n + (ds.length + 1) = n + 1 + ds.length by omega]; exact h2)
    have := st (i + 1) d' ρ2 (by simpa using hd) (by rw [show n + (i + 1) = n + 1 + i by omega]; exact hi)
    rw [show n + (i + 1) + 1 = n + 1 + i + 1 by omega] at this
    exact this
theorem forL_i {T : Tgt} {f : WS} {k : SK} (I : Nat → SEnv → Prop) {ds : List D} {ρ : SEnv} (h0 : I 0 ρ)
    (st : ∀ i d ρ, ds[i]? = some d → I i ρ → ∃ bs, T.bs d = some bs ∧ ∀ nxt : SEnv → Prop, (∀ ρ', I (i + 1) ρ' → nxt ρ') → f (setE ρ (bs.map fun b => (b.1, SV.fz b.2))) { k with nx := nxt, ct := nxt, bk := k.nx })
    (he : ∀ ρ, I ds.length ρ → k.nx ρ) : forL T f ds ρ k :=
  forL_ind I ds 0 ρ h0 (fun i d ρ hd hi => by rw [Nat.zero_add] at hi ⊢; exact st i d ρ hd hi) fun ρ h => he ρ (by rw [Nat.zero_add] at h; exact h)
def noS : String → Prop := fun _ => False
theorem loopC_ind {ρ : Env'} {T : Tgt} {tst : WT} {elt : WE} {K : List D → Prop} (I : Nat → List D → Prop) : ∀ (ds : List D) (n : Nat) (acc : List D), I n acc →
    (∀ i d acc, ds[i]? = some d → I (n + i) acc → ∃ bs, T.bs d = some bs ∧ ∀ (N : D → Prop) (M : Prop), (∀ y, I (n + i + 1) (acc ++ [y]) → N y) → (I (n + i + 1) acc → M) → tst (setE ρ bs) (fun b => if b = true then elt (setE ρ bs) N (fun _ => False) else M) (fun _ => False)) →
    (∀ acc, I (n + ds.length) acc → K acc) → loopC ρ T tst elt ds acc K
  | [], n, acc, h0, _, he => he acc h0
  | d :: ds, n, acc, h0, st, he => by
    rw [loopC]
    obtain ⟨bs, e, h⟩ := st 0 d acc rfl h0
    rw [e]
    have rest : ∀ acc, I (n + 1) acc → loopC ρ T tst elt ds acc K := fun acc h1 => loopC_ind I ds (n + 1) acc h1 (fun i d' a2 hd hi => by
      have := st (i + 1) d' a2 (by simpa using hd) (by rw [show n + (i + 1) = n + 1 + i by omega]; exact hi)
      rw [show n + (i + 1) + 1 = n + 1 + i + 1 by omega] at this
      exact this) fun a2 h2 => he a2 (by rw [List.length_cons]; rw [show n + (ds.length + 1) = n + 1 + ds.length by omega]; exact h2)
    exact h _ _ (fun y hy => rest _ hy) (fun hy => rest _ hy)
theorem loopC_i {ρ : Env'} {T : Tgt} {tst : WT} {elt : WE} {K : List D → Prop} (I : Nat → List D → Prop) {ds : List D} (h0 : I 0 [])
    (st : ∀ i d acc, ds[i]? = some d → I i acc → ∃ bs, T.bs d = some bs ∧ ∀ (N : D → Prop) (M : Prop), (∀ y, I (i + 1) (acc ++ [y]) → N y) → (I (i + 1) acc → M) → tst (setE ρ bs) (fun b => if b = true then elt (setE ρ bs) N (fun _ => False) else M) (fun _ => False))
    (he : ∀ acc, I ds.length acc → K acc) : loopC ρ T tst elt ds [] K :=
  loopC_ind I ds 0 [] h0 (fun i d acc hd hi => by rw [Nat.zero_add] at hi ⊢; exact st i d acc hd hi) fun acc h => he acc (by rw [Nat.zero_add] at h; exact h)
/-- a comprehension over encoded things: filter, map -/
theorem loopC_fm {α : Type} {ρ : Env'} {T : Tgt} {tst : WT} {elt : WE} {K : List D → Prop} (enc : α → D) (p : α → Bool) (g : α → D) : ∀ (xs : List α) (acc : List D),
    (∀ x ∈ xs, ∃ bs, T.bs (enc x) = some bs ∧ ∀ (N : D → Prop) (M : Prop), (if p x = true then N (g x) else M) → tst (setE ρ bs) (fun b => if b = true then elt (setE ρ bs) N (fun _ => False) else M) (fun _ => False)) →
    K (acc ++ (xs.filter p).map g) → loopC ρ T tst elt (xs.map enc) acc K
  | [], acc, _, h => by simpa [loopC] using h
  | x :: xs, acc, st, h => by
    rw [List.map_cons, loopC]
    obtain ⟨bs, e, q⟩ := st x (List.mem_cons_self ..)
    rw [e]
    refine q _ _ ?_
    have ih := fun acc => loopC_fm (K := K) enc p g xs acc fun y hy => st y (List.mem_cons_of_mem _ hy)
    cases hp : p x with
    | true =>
      rw [if_pos rfl]
      refine ih _ ?_
      rw [List.filter_cons_of_pos hp] at h
      simpa using h
    | false =>
      rw [if_neg (by simp)]
      refine ih _ ?_
      rw [List.filter_cons_of_neg (by simp [hp])] at h
      exact h
theorem loopC_map {α : Type} {ρ : Env'} {T : Tgt} {elt : WE} {K : List D → Prop} (enc : α → D) (g : α → D) (xs : List α)
    (st : ∀ x ∈ xs, ∃ bs, T.bs (enc x) = some bs ∧ ∀ N : D → Prop, N (g x) → elt (setE ρ bs) N (fun _ => False))
    (h : K (xs.map g)) : loopC ρ T yesT elt (xs.map enc) [] K := by
  refine loopC_fm enc (fun _ => true) g xs [] (fun x hx => ?_) (by rw [List.nil_append, List.filter_eq_self.mpr fun _ _ => rfl]; exact h)
  obtain ⟨bs, e, q⟩ := st x hx
  refine ⟨bs, e, fun N M hN => ?_⟩
  rw [if_pos rfl] at hN
  unfold yesT
  dsimp only
  rw [if_pos rfl]
  exact q N hN
theorem loopK_map {α : Type} {ρ : Env'} {T : Tgt} {tst : WT} {elt : WE} {K : List D → Prop} (enc : α → D) (p : α → Bool) (g : α → D) : ∀ (xs : List α) (acc : List D),
    (∀ x ∈ xs, ∃ bs, T.bs (enc x) = some bs ∧ ∀ (N : D → Prop) (M : Prop), (if p x = true then N (g x) else M) → tst (setE ρ bs) (fun b => if b = true then elt (setE ρ bs) N (fun _ => False) else M) (fun _ => False)) → acc.length + xs.length ≤ 16777216 →
    K (acc ++ (xs.filter p).map g) → loopK ρ T tst elt (xs.map enc) acc K
  | [], acc, _, _, h => by simpa [loopK] using h
  | x :: xs, acc, st, hz, h => by
    rw [List.map_cons, loopK]
    rw [List.length_cons] at hz
    obtain ⟨bs, e, q⟩ := st x (List.mem_cons_self ..)
    rw [e]
    refine q _ _ ?_
    have ih := fun acc hz => loopK_map (K := K) enc p g xs acc (fun y hy => st y (List.mem_cons_of_mem _ hy)) hz
    cases hp : p x with
    | true =>
      rw [if_pos rfl]
      refine ⟨by omega, ih _ (by rw [List.length_append, List.length_singleton]; omega) ?_⟩
      rw [List.filter_cons_of_pos hp] at h
      simpa using h
    | false =>
      rw [if_neg (by simp)]
      refine ih _ (by omega) ?_
      rw [List.filter_cons_of_neg (by simp [hp])] at h
      exact h
/-- two-fold, without an outer test -/
theorem loop2_map {α β : Type} {ρ : Env'} {vs1 : List Nat} {T T1 : Tgt} {src1 : WA} {tst1 : WT} {elt : WE} {K : List D → Prop} (enc : α → D) (ys : α → List β) (enc1 : α → β → D) (p : α → β → Bool) (g : α → β → D) : ∀ (xs : List α) (acc : List D),
    (∀ x ∈ xs, ∃ bs, T.bs (enc x) = some bs ∧ ∀ (R : List D → Prop), R ((ys x).map (enc1 x)) → src1 (setE ρ bs) R (fun _ => False)) →
    (∀ x ∈ xs, ∀ bs, T.bs (enc x) = some bs → ∀ y ∈ ys x, ∃ bs1, T1.bs (enc1 x y) = some bs1 ∧ ∀ (N : D → Prop) (M : Prop), (if p x y = true then N (g x y) else M) →
      tst1 (setE (wipeD (setE ρ bs) vs1) bs1) (fun b => if b = true then elt (setE (wipeD (setE ρ bs) vs1) bs1) N (fun _ => False) else M) (fun _ => False)) →
    acc.length + (xs.map fun x => (ys x).length).sum ≤ 16777216 →
    K (acc ++ xs.flatMap fun x => ((ys x).filter (p x)).map (g x)) → loop2 ρ vs1 T yesT T1 src1 tst1 elt (xs.map enc) acc K
  | [], acc, _, _, _, h => by simpa [loop2] using h
  | x :: xs, acc, st, st1, hz, h => by
    rw [List.map_cons, loop2]
    rw [List.map_cons, List.sum_cons] at hz
    obtain ⟨bs, e, q⟩ := st x (List.mem_cons_self ..)
    rw [e]
    unfold yesT
    dsimp only
    rw [if_pos rfl]
    refine q _ (loopK_map (enc1 x) (p x) (g x) (ys x) acc (fun y hy => st1 x (List.mem_cons_self ..) bs e y hy) (by omega) ?_)
    refine loop2_map enc ys enc1 p g xs _ (fun y hy => st y (List.mem_cons_of_mem _ hy)) (fun y hy => st1 y (List.mem_cons_of_mem _ hy)) ?_ ?_
    · have := List.length_filter_le (p x) (ys x)
      rw [List.length_append, List.length_map]; omega
    · rw [List.flatMap_cons, ← List.append_assoc] at h; exact h
mutual
/-- printable: no hand, script or raw value within (dicts as they are) -/
def D.pd : D → Bool
  | .hnd _ _ => false
  | .scr _ => false
  | .raw _ => false
  | .lt _ => false
  | .list xs => D.pds xs
  | .tuple xs => D.pds xs
  | _ => true
def D.pds : List D → Bool
  | [] => true
  | x :: xs => D.pd x && D.pds xs
end
theorem pd_ty {d : D} (h : d.pd = true) : ∃ t, d.ty = some t := by
  cases d <;> first | exact ⟨_, rfl⟩ | simp [D.pd] at h
theorem pds_mem : ∀ {xs : List D}, D.pds xs = true → ∀ x ∈ xs, x.pd = true
  | x :: xs, h, y, hy => by
    rw [D.pds, Bool.and_eq_true] at h
    rcases List.mem_cons.mp hy with rfl | hy
    · exact h.1
    · exact pds_mem h.2 y hy
theorem pds_of : ∀ {xs : List D}, (∀ x ∈ xs, x.pd = true) → D.pds xs = true
  | [], _ => by rw [D.pds]
  | x :: xs, h => by rw [D.pds, h x (List.mem_cons_self ..), pds_of fun y hy => h y (List.mem_cons_of_mem _ hy)]; rfl
theorem atI_0 {α : Type} (x : α) (xs : List α) : L2.atI (x :: xs) 0 = some x := by simp [L2.atI, ixN]
theorem atI_1 {α : Type} (x y : α) (xs : List α) : L2.atI (x :: y :: xs) 1 = some y := by
  unfold L2.atI ixN
  rw [if_pos (by decide), if_pos (by simp only [List.length_cons]; omega)]
  rfl
theorem atI_2 {α : Type} (x y z : α) (xs : List α) : L2.atI (x :: y :: z :: xs) 2 = some z := by
  unfold L2.atI ixN
  rw [if_pos (by decide), if_pos (by simp only [List.length_cons]; omega)]
  rfl
theorem atI_nat {α : Type} (xs : List α) (i : Nat) (h : i < xs.length) : L2.atI xs (i : Int) = some xs[i] := by
  unfold L2.atI ixN
  rw [if_pos (by omega), if_pos (by omega)]
  show xs[((i : Nat) : Int).toNat]? = _
  rw [Int.toNat_natCast, List.getElem?_eq_getElem h]
theorem atI_int {α : Type} (xs : List α) (i : Int) (h0 : 0 ≤ i) (h : i < xs.length) : L2.atI xs i = some (xs[i.toNat]'(by omega)) := by
  have e : i = ((i.toNat : Nat) : Int) := by omega
  conv => lhs; rw [e]
  rw [atI_nat xs i.toNat (by omega)]
theorem eqv_int (a b : Int) : (D.int a).eqv (D.int b) = (a == b) := by unfold D.eqv; rw [D.py, D.py, PyData.eqv]
theorem eqv_bool (a b : Bool) : (D.bool a).eqv (D.bool b) = (a == b) := by unfold D.eqv; rw [D.py, D.py, PyData.eqv]
theorem eqv_str (a b : Str) : (D.str a).eqv (D.str b) = (a == b) := by unfold D.eqv; rw [D.py, D.py, PyData.eqv]
mutual
theorem eqv_refl : ∀ {d : D}, d.pl = true → d.eqv d = true
  | .non, _ => by unfold D.eqv; rw [D.py, PyData.eqv]
  | .bool b, _ => by rw [eqv_bool]; simp
  | .int i, _ => by rw [eqv_int]; simp
  | .str x, _ => by rw [eqv_str]; simp
  | .list xs, h => by unfold D.eqv; rw [D.py, PyData.eqv]; rw [D.pl] at h; exact eqvs_refl h
  | .tuple xs, h => by unfold D.eqv; rw [D.py, PyData.eqv]; rw [D.pl] at h; exact eqvs_refl h
  | .dict _ _, h => by rw [D.pl] at h; cases h
  | .hnd _ _, h => by rw [D.pl] at h; cases h
  | .scr _, h => by rw [D.pl] at h; cases h
  | .raw _, h => by rw [D.pl] at h; cases h
  | .lt _, h => by rw [D.pl] at h; cases h
theorem eqvs_refl : ∀ {xs : List D}, D.pls xs = true → PyData.eqvAll (D.pys xs) (D.pys xs) = true
  | [], _ => by rw [D.pys, PyData.eqvAll]
  | x :: xs, h => by
    rw [D.pls, Bool.and_eq_true] at h
    rw [D.pys, PyData.eqvAll, eqvs_refl h.2]
    have := eqv_refl h.1
    unfold D.eqv at this
    rw [this]; rfl
end
theorem eqvs_map {α : Type} [DecidableEq α] {f : α → D} (h : ∀ a b, (f a).eqv (f b) = decide (a = b)) : ∀ xs ys : List α, PyData.eqvAll (D.pys (xs.map f)) (D.pys (ys.map f)) = decide (xs = ys)
  | [], [] => by simp [D.pys, PyData.eqvAll]
  | [], y :: ys => by simp [D.pys, PyData.eqvAll]
  | x :: xs, [] => by simp [D.pys, PyData.eqvAll]
  | x :: xs, y :: ys => by
    rw [List.map_cons, List.map_cons, D.pys, D.pys, PyData.eqvAll, eqvs_map h xs ys]
    have := h x y
    unfold D.eqv at this
    rw [this]
    by_cases e : x = y <;> by_cases e2 : xs = ys <;> simp [e, e2]
theorem eqv_tup {α : Type} [DecidableEq α] {f : α → D} (h : ∀ a b, (f a).eqv (f b) = decide (a = b)) (xs ys : List α) : (D.tuple (xs.map f)).eqv (.tuple (ys.map f)) = decide (xs = ys) := by
  unfold D.eqv; rw [D.py, D.py, PyData.eqv]; exact eqvs_map h xs ys
theorem eqv_lst {α : Type} [DecidableEq α] {f : α → D} (h : ∀ a b, (f a).eqv (f b) = decide (a = b)) (xs ys : List α) : (D.list (xs.map f)).eqv (.list (ys.map f)) = decide (xs = ys) := by
  unfold D.eqv; rw [D.py, D.py, PyData.eqv]; exact eqvs_map h xs ys
theorem eqv_i (a b : Int) : (D.int a).eqv (D.int b) = decide (a = b) := by rw [eqv_int]; by_cases h : a = b <;> simp [h]
/-- plain, of a depth -/
def cmn (n : Nat) (d : D) : Prop := d.pl = true ∧ d.py.depth ≤ n ∧ d.py.canLay0 = true
theorem cmn_int (i : Int) : cmn 0 (.int i) := ⟨by rw [D.pl]; all_goals simp, by rw [D.py, PyData.depth]; all_goals simp, rfl⟩
theorem cmn_bool (i : Bool) : cmn 0 (.bool i) := ⟨by rw [D.pl]; all_goals simp, by rw [D.py, PyData.depth]; all_goals simp, rfl⟩
theorem cmn_str (i : Str) (hs : PyData.canLay0 (.str i) = true) : cmn 0 (.str i) := ⟨by rw [D.pl]; all_goals simp, by rw [D.py, PyData.depth]; all_goals simp, by rw [D.py]; exact hs⟩
theorem cmn_non : cmn 0 .non := ⟨by rw [D.pl]; all_goals simp, by rw [D.py, PyData.depth]; all_goals simp, rfl⟩
theorem cmn.le {n m : Nat} {d : D} (h : cmn n d) (l : n ≤ m) : cmn m d := ⟨h.1, Nat.le_trans h.2.1 l, h.2.2⟩
theorem depths_le {n : Nat} : ∀ {xs : List D}, (∀ x ∈ xs, cmn n x) → D.pls xs = true ∧ PyData.depthAll (D.pys xs) ≤ n ∧ PyData.canLayAll0 (D.pys xs) = true
  | [], _ => ⟨by rw [D.pls], by rw [D.pys, PyData.depthAll]; exact Nat.zero_le _, by rw [D.pys, PyData.canLayAll0]⟩
  | x :: xs, h => by
    obtain ⟨h1, h2, h3⟩ := depths_le fun y hy => h y (List.mem_cons_of_mem _ hy)
    obtain ⟨g1, g2, g3⟩ := h x (List.mem_cons_self ..)
    refine ⟨by rw [D.pls, g1, h1]; rfl, ?_, by rw [D.pys, PyData.canLayAll0, g3, h3]; rfl⟩
    rw [D.pys, PyData.depthAll]
    omega
theorem cmn_tup {n : Nat} {xs : List D} (h : ∀ x ∈ xs, cmn n x) : cmn (n + 1) (.tuple xs) := by
  obtain ⟨h1, h2, h3⟩ := depths_le h
  exact ⟨by rw [D.pl]; exact h1, by rw [D.py, PyData.depth]; omega, by rw [D.py, PyData.canLay0]; exact h3⟩
theorem cmn_lst {n : Nat} {xs : List D} (h : ∀ x ∈ xs, cmn n x) : cmn (n + 1) (.list xs) := by
  obtain ⟨h1, h2, h3⟩ := depths_le h
  exact ⟨by rw [D.pl]; exact h1, by rw [D.py, PyData.depth]; omega, by rw [D.py, PyData.canLay0]; exact h3⟩
theorem cmn.cm {n : Nat} {d : D} (h : cmn n d) (hn : n ≤ 64 := by decide) : d.cm = true := by
  unfold D.cm SeqAt.shaped
  rw [h.1, h.2.2, decide_eq_true (Nat.le_trans h.2.1 hn)]; rfl
theorem cm_int (i : Int) : (D.int i).cm = true := (cmn_int i).cm
theorem cm_bool (i : Bool) : (D.bool i).cm = true := (cmn_bool i).cm
theorem cm_str (i : Str) (hs : PyData.canLay0 (.str i) = true) : (D.str i).cm = true := (cmn_str i hs).cm
theorem cm_non : (D.non).cm = true := cmn_non.cm
theorem cmn_ints (xs : List Int) : cmn 1 (.tuple (xs.map D.int)) := cmn_tup fun x hx => by obtain ⟨i, _, rfl⟩ := List.mem_map.mp hx; exact cmn_int i
theorem cutD_from (xs : List D) (n : Nat) : DL.cutD xs (some (n : Int)) none = xs.drop n := by
  unfold DL.cutD HT.sIx
  simp only [Option.getD_none]
  rw [if_neg (by omega)]
  have e : (min (n : Int) (xs.length : Int)).toNat = min n xs.length := by omega
  first
    | (rw [Int.toNat_natCast]; rcases Nat.le_total n xs.length with h | h
       · rw [Nat.min_eq_left h, List.take_of_length_le (by rw [List.length_drop]; omega)]
       · rw [Nat.min_eq_right h, List.drop_length, List.take_nil, List.drop_eq_nil_of_le h])
    | skip
theorem cutD_to (xs : List D) (n : Nat) : DL.cutD xs none (some (n : Int)) = xs.take n := by
  unfold DL.cutD HT.sIx
  simp only [Option.getD_none]
  rw [if_neg (by omega), Int.toNat_natCast, List.drop_zero, Nat.sub_zero]
  rcases Nat.le_total n xs.length with h | h
  · rw [Nat.min_eq_left h]
  · rw [Nat.min_eq_right h, List.take_length, List.take_of_length_le h]
theorem zipD_map {α β : Type} (f : α → D) (g : β → D) : ∀ (xs : List α) (ys : List β), zipD (xs.map f) (ys.map g) = (xs.zip ys).map fun p => .lt [f p.1, g p.2]
  | [], _ => by simp [zipD]
  | _ :: _, [] => by simp [zipD]
  | x :: xs, y :: ys => by
    have := zipD_map f g xs ys
    unfold zipD at this ⊢
    simp only [List.map_cons, List.zipWith_cons_cons, List.zip_cons_cons, this]
class Kont (α : Type) where
  f : α → Prop
def Hold {α : Type} [k : Kont α] (x : α) : Prop := k.f x
theorem hold_ap {α : Type} (f : α → Prop) (x : α) : @Hold α ⟨f⟩ x = f x := rfl
class Br where
  t : Prop
  e : Prop
def Cond (c : Bool) [b : Br] : Prop := if c = true then b.t else b.e
theorem cond_t (a b : Prop) : @Cond true ⟨a, b⟩ = a := rfl
theorem cond_f (a b : Prop) : @Cond false ⟨a, b⟩ = b := by unfold Cond; simp
theorem cond_is {c d : Bool} {a b : Prop} (h : c = d) (k : @Cond d ⟨a, b⟩) : @Cond c ⟨a, b⟩ := h ▸ k
theorem seqW_a (f g : WS) (ρ : SEnv) (k : SK) : seqW f g ρ k = (f ρ { k with nx := @Hold _ ⟨fun ρ' => g ρ' k⟩}) := rfl
theorem nextW_a (ρ : SEnv) (k : SK) : nextW ρ k = (k.nx ρ) := rfl
theorem breakW_a (ρ : SEnv) (k : SK) : breakW ρ k = (k.bk ρ) := rfl
theorem contW_a (ρ : SEnv) (k : SK) : contW ρ k = (k.ct ρ) := rfl
theorem exprW_a (b : Bool) (f : WE) (ρ : SEnv) (k : SK) : exprW b f ρ k = (f (view b ρ) (@Hold _ ⟨fun _ => k.nx ρ⟩) k.xc) := rfl
theorem retW_a (f : WE) (ρ : SEnv) (k : SK) : retW f ρ k = (f (view true ρ) k.rt k.xc) := rfl
theorem retN_a (z0 : SEnv) (k : SK) : retN  z0 k = (k.rt .non) := rfl
theorem setK_a (b : Bool) (T : Tgt) (ρ : SEnv) (k : SK) (d : D) : setK b T ρ k d = ((b = true → d.flat = true) ∧ match T.bs d with
  | some bs => k.nx (setE ρ (bs.map fun b => (b.1, SV.fz b.2)))
  | none => False) := rfl
theorem asgW_a (b : Bool) (T : Tgt) (f : WE) (ρ : SEnv) (k : SK) : asgW b T f ρ k = (f (view b ρ) (setK b T ρ k) k.xc) := rfl
theorem ownW_a (b : Bool) (i : Nat) (f : WE) (ρ : SEnv) (k : SK) : ownW b i f ρ k = (f (view b ρ) (@Hold _ ⟨fun d => (b = true → d.flatIn = true) ∧ k.nx (ρ.set i (some (.own d)))⟩) k.xc) := rfl
theorem parW_a (b : Bool) (i j : Nat) (f : WA) (ρ : SEnv) (k : SK) : parW b i j f ρ k = (f (view b ρ) (@Hold _ ⟨fun ds => match ds with
  | [d, e] => (b = true → (d.flat && e.flat) = true) ∧ k.nx ((ρ.set i (some (.fz d))).set j (some (.fz e)))
  | _ => False⟩) k.xc) := rfl
theorem ifW_a (b : Bool) (t : WT) (f g : WS) (ρ : SEnv) (k : SK) : ifW b t f g ρ k = (t (view b ρ) (@Hold _ ⟨fun c => @Cond c ⟨f ρ k, g ρ k⟩⟩) k.xc) := rfl
theorem forW_a (T : Tgt) (src : WA) (f : WS) (ρ : SEnv) (k : SK) : forW T src f ρ k = (src (view false ρ) (@Hold _ ⟨fun ds => forL T f ds ρ k⟩) k.xc) := rfl
theorem forRW_a (T : Tgt) (src : WA) (f : WS) (ρ : SEnv) (k : SK) : forRW T src f ρ k = (src (view true ρ) (@Hold _ ⟨fun ds => forL T f ds ρ k⟩) k.xc) := rfl
theorem frzW_a (is : List Nat) (f : WS) (ρ : SEnv) (k : SK) : frzW is f ρ k = (f (frzE is ρ) k) := rfl
theorem raiseW_a (c : String) (z0 : SEnv) (k : SK) : raiseW c z0 k = (k.xc c) := rfl
theorem appW_a (b : Bool) (i : Nat) (f : WE) (ρ : SEnv) (k : SK) : appW b i f ρ k = (ownL ρ i <| @Hold _ ⟨fun ds => f (view b ρ) (@Hold _ ⟨fun d => ((b = true → d.flat = true) ∧ ds.length < 16777216) ∧ k.nx (ρ.set i (some (.own (.list (ds ++ [d])))))⟩) k.xc⟩) := rfl
theorem extW_a (b : Bool) (i : Nat) (f : WE) (ρ : SEnv) (k : SK) : extW b i f ρ k = (ownL ρ i <| @Hold _ ⟨fun ds => f (view b ρ) (@Hold _ ⟨fun d => match d with
  | .list es => ((b = true → D.flats es = true) ∧ ds.length + es.length ≤ 16777216) ∧ k.nx (ρ.set i (some (.own (.list (ds ++ es)))))
  | _ => False⟩) k.xc⟩) := rfl
theorem trkW_a [TabsC] (b : Bool) (i : Nat) (f : WA) (ρ : SEnv) (k : SK) : trkW b i f ρ k = (f (view b ρ) (@Hold _ ⟨fun ds => ((b = true → D.flats ds = true) ∧ ds.length ≤ sizeLine ∧ TabsC.kn = false) ∧ k.nx (ρ.set i (some (.trk ds)))⟩) k.xc) := rfl
theorem putW_a (b : Bool) (i j : Nat) (f : WE) (ρ : SEnv) (k : SK) : putW b i j f ρ k = (f (view b ρ) (@Hold _ ⟨fun d => (b = true → d.flat = true) ∧
  ((∃ kvs ks, ρ[i]? = some (some (.own (encT kvs))) ∧ ρ[j]? = some (some (.trk (ks.map D.ofKey))) ∧ kvs.length < 16777216 ∧ k.nx (ρ.set i (some (.own (encT (putD kvs ks d)))))) ∨
   (∃ kvs k', ρ[i]? = some (some (.own (encK kvs))) ∧ ρ[j]? = some (some (.fz (D.ofKey k'))) ∧ kvs.length < 16777216 ∧ k.nx (ρ.set i (some (.own (encK (putD kvs k' d)))))))⟩) k.xc) := rfl
theorem retHW_a (f : WE) (ρ : SEnv) (k : SK) : retHW f ρ k = (f (view false ρ) (@Hold _ ⟨fun d => ∃ (cs : List Int) (i l m n : Int), d = .list [.list (cs.map D.int), .int i, .int l, .int m, .int n] ∧
  (cs.length ≤ 63 ∧ (∀ x ∈ cs, 0 ≤ x) ∧ 0 ≤ i ∧ 0 ≤ l ∧ 0 ≤ m ∧ m < 2 ^ 62 ∧ 0 ≤ n) ∧ ∀ a c, k.rt (.hnd a c)⟩) k.xc) := rfl
theorem varW_a (i : Nat) (ρ : Env') (K : D → Prop) (z2 : String → Prop) : varW i ρ K z2 = (match ρ[i]? with
  | some (some d) => K d
  | _ => False) := rfl
theorem cstW_a (d : D) (z0 : Env') (K : D → Prop) (z2 : String → Prop) : cstW d z0 K z2 = (K d) := rfl
theorem binW_a (g : W2) (fa fb : WE) (ρ : Env') (K : D → Prop) (Xc : String → Prop) : binW g fa fb ρ K Xc = (fa ρ (@Hold _ ⟨fun x => fb ρ (@Hold _ ⟨fun y => g x y K⟩) Xc⟩) Xc) := rfl
theorem tupW_a (f : WA) (ρ : Env') (K : D → Prop) (Xc : String → Prop) : tupW f ρ K Xc = (f ρ (@Hold _ ⟨fun ds => ds.length ≤ sizeLine ∧ K (.tuple ds)⟩) Xc) := rfl
theorem lstW_a (f : WA) (ρ : Env') (K : D → Prop) (Xc : String → Prop) : lstW f ρ K Xc = (f ρ (@Hold _ ⟨fun ds => ds.length ≤ sizeLine ∧ K (.list ds)⟩) Xc) := rfl
theorem consA_a (f : WE) (g : WA) (ρ : Env') (K : List D → Prop) (Xc : String → Prop) : consA f g ρ K Xc = (f ρ (@Hold _ ⟨fun d => g ρ (@Hold _ ⟨fun ds => K (d :: ds)⟩) Xc⟩) Xc) := rfl
theorem nilA_a (z0 : Env') (K : List D → Prop) (z2 : String → Prop) : nilA  z0 K z2 = (K []) := rfl
theorem callW_a (S : SF) (f : WA) (ρ : Env') (K : D → Prop) (Xc : String → Prop) : callW S f ρ K Xc = (f ρ (@Hold _ ⟨fun ds => S ds K Xc⟩) Xc) := rfl
theorem bltW_a (g : W1) (f : WA) (ρ : Env') (K : D → Prop) (Xc : String → Prop) : bltW g f ρ K Xc = (f ρ (@Hold _ ⟨fun ds => g ds K⟩) Xc) := rfl
theorem rng1A_a (f : WA) (ρ : Env') (K : List D → Prop) (Xc : String → Prop) : rng1A f ρ K Xc = (f ρ (@Hold _ ⟨fun ds => match ds with
  | [.int j] => (-4611686018427387904 ≤ j ∧ j ≤ 16777216) ∧ K (rgD 0 j.toNat)
  | _ => False⟩) Xc) := rfl
theorem rng2A_a (f : WA) (ρ : Env') (K : List D → Prop) (Xc : String → Prop) : rng2A f ρ K Xc = (f ρ (@Hold _ ⟨fun ds => match ds with
  | [.int i, .int j] => (-1000000000 ≤ i ∧ i ≤ 1000000000 ∧ -1000000000 ≤ j ∧ j - i ≤ 16777216) ∧ K (rgD i (j - i).toNat)
  | _ => False⟩) Xc) := rfl
theorem rng3A_a (f : WA) (ρ : Env') (K : List D → Prop) (Xc : String → Prop) : rng3A f ρ K Xc = (f ρ (@Hold _ ⟨fun ds => match ds with
  | [.int i, .int j, .int c] => ∃ n, (RgC i j c n ∧ n ≤ 16777216) ∧ K (rgcD i c n)
  | _ => False⟩) Xc) := rfl
theorem zipA_a (f : WA) (ρ : Env') (K : List D → Prop) (Xc : String → Prop) : zipA f ρ K Xc = (f ρ (@Hold _ ⟨fun ds => match ds with
  | [.list xs, .list ys] => K (zipD xs ys)
  | [.tuple xs, .tuple ys] => K (zipD xs ys)
  | _ => False⟩) Xc) := rfl
theorem seqA_a (f : WE) (ρ : Env') (K : List D → Prop) (Xc : String → Prop) : seqA f ρ K Xc = (f ρ (seqK K) Xc) := rfl
theorem compW_a (vs : List Nat) (T : Tgt) (src : WA) (tst : WT) (elt : WE) (ρ : Env') (K : D → Prop) (Xc : String → Prop) : compW vs T src tst elt ρ K Xc = (src ρ (@Hold _ ⟨fun ds => loopC (wipeD ρ vs) T tst elt ds [] (@Hold _ ⟨fun acc => K (.list acc)⟩)⟩) Xc) := rfl
theorem comp2W_a (vs vs1 : List Nat) (T : Tgt) (src : WA) (tst : WT) (T1 : Tgt) (src1 : WA) (tst1 : WT) (elt : WE) (ρ : Env') (K : D → Prop) (Xc : String → Prop) : comp2W vs vs1 T src tst T1 src1 tst1 elt ρ K Xc = (src ρ (@Hold _ ⟨fun ds => loop2 (wipeD ρ vs) vs1 T tst T1 src1 tst1 elt ds [] (@Hold _ ⟨fun acc => K (.list acc)⟩)⟩) Xc) := rfl
theorem andV_a (f g : WE) (ρ : Env') (K : D → Prop) (Xc : String → Prop) : andV f g ρ K Xc = (f ρ (@Hold _ ⟨fun d => match d with
  | .bool b => @Cond b ⟨g ρ K Xc, K (.bool false)⟩
  | _ => False⟩) Xc) := rfl
theorem orV_a (f g : WE) (ρ : Env') (K : D → Prop) (Xc : String → Prop) : orV f g ρ K Xc = (f ρ (@Hold _ ⟨fun d => match d with
  | .bool b => @Cond b ⟨K (.bool true), g ρ K Xc⟩
  | _ => False⟩) Xc) := rfl
theorem notV_a (f : WE) (ρ : Env') (K : D → Prop) (Xc : String → Prop) : notV f ρ K Xc = (f ρ (@Hold _ ⟨fun d => match d with
  | .bool b => K (.bool (!b))
  | _ => False⟩) Xc) := rfl
theorem ifV_a (t : WT) (f g : WE) (ρ : Env') (K : D → Prop) (Xc : String → Prop) : ifV t f g ρ K Xc = (t ρ (@Hold _ ⟨fun b => @Cond b ⟨f ρ K Xc, g ρ K Xc⟩⟩) Xc) := rfl
theorem chainW_a (g g' : W2) (fa fb fc : WE) (ρ : Env') (K : D → Prop) (Xc : String → Prop) : chainW g g' fa fb fc ρ K Xc = (fa ρ (@Hold _ ⟨fun x => fb ρ (@Hold _ ⟨fun y => g x y (@Hold _ ⟨fun z => match z with
  | .bool k => @Cond k ⟨fc ρ (@Hold _ ⟨fun w => g' y w K⟩) Xc, K (.bool false)⟩
  | _ => False⟩)⟩) Xc⟩) Xc) := rfl
theorem andT_a (f g : WT) (ρ : Env') (K : Bool → Prop) (Xc : String → Prop) : andT f g ρ K Xc = (f ρ (@Hold _ ⟨fun b => @Cond b ⟨g ρ K Xc, K false⟩⟩) Xc) := rfl
theorem orT_a (f g : WT) (ρ : Env') (K : Bool → Prop) (Xc : String → Prop) : orT f g ρ K Xc = (f ρ (@Hold _ ⟨fun b => @Cond b ⟨K true, g ρ K Xc⟩⟩) Xc) := rfl
theorem notT_a (f : WT) (ρ : Env') (K : Bool → Prop) (Xc : String → Prop) : notT f ρ K Xc = (f ρ (@Hold _ ⟨fun b => K (!b)⟩) Xc) := rfl
theorem boolW_a (f : WE) (ρ : Env') (K : Bool → Prop) (Xc : String → Prop) : boolW f ρ K Xc = (f ρ (boolK K) Xc) := rfl
theorem truthW_a (f : WE) (ρ : Env') (K : Bool → Prop) (Xc : String → Prop) : truthW f ρ K Xc = (f ρ (truthK K) Xc) := rfl
theorem negW_a (f : WE) (ρ : Env') (K : D → Prop) (Xc : String → Prop) : negW f ρ K Xc = (f ρ (@Hold _ ⟨fun d => match d with
  | .int i => K (.int (-i))
  | _ => False⟩) Xc) := rfl
theorem slcW_a (f : WE) (l u : WO) (ρ : Env') (K : D → Prop) (Xc : String → Prop) : slcW f l u ρ K Xc = (f ρ (@Hold _ ⟨fun d => l ρ (@Hold _ ⟨fun lo => u ρ (@Hold _ ⟨fun hi => slK d lo hi K⟩) Xc⟩) Xc⟩) Xc) := rfl
theorem noO_a (z0 : Env') (K : Option Int → Prop) (z2 : String → Prop) : noO  z0 K z2 = (K none) := rfl
theorem someO_a (f : WE) (ρ : Env') (K : Option Int → Prop) (Xc : String → Prop) : someO f ρ K Xc = (f ρ (@Hold _ ⟨fun d => match d with
  | .int i => K (some i)
  | _ => False⟩) Xc) := rfl
theorem yesT_a (z0 : Env') (K : Bool → Prop) (z2 : String → Prop) : yesT  z0 K z2 = (K true) := rfl
theorem getW_a (fo : WE) (fa : WA) (ρ : Env') (K : D → Prop) (Xc : String → Prop) : getW fo fa ρ K Xc = (fo ρ (@Hold _ ⟨fun d => d.isDict = true ∧ fa ρ (@Hold _ ⟨fun ds => match ds with
  | [k, z] => dgetP d k (@Hold _ ⟨fun o => K (o.getD z)⟩)
  | _ => False⟩) Xc⟩) Xc) := rfl
theorem sortIW_a [TabsC] (f : WE) (ρ : Env') (K : D → Prop) (Xc : String → Prop) : sortIW f ρ K Xc = (f ρ (@Hold _ ⟨fun d => match d with
  | .dict _ kvs => (TabsC.kn = false ∧ sortP (pairsD kvs)) ∧ K (.list (sortD (pairsD kvs)))
  | _ => False⟩) Xc) := rfl
theorem lamW_a (tellS : Str) (tell : String → Option Str) (f : WE) (ρ : Env') (K : D → Prop) (z2 : String → Prop) : lamW tellS tell f ρ K z2 = (f ρ (@Hold _ ⟨fun _ => K (.str tellS)⟩) (@Hold _ ⟨fun c => ∃ t, tell c = some t ∧ K (.str t)⟩)) := rfl
end DL

set_option Elab.async false
set_option linter.all false
set_option maxRecDepth 100000
set_option maxHeartbeats 4000000
namespace DL
open PySem PySem.Spec PyProof.Rows L2
section
variable {prog : Program} {w : World} {A : Around} {E : Value → Shared → Prop} {s : Shared}
theorem applied_rev {sl : Addr} {vs : Value} {n : Nat} {Q : Int × Int × Nat → Shared → Prop} (hs : s.heap.IsSliceOf sl .none .none vs) (ps : IsPart vs (some (-1))) (h : Q ((n : Int) - 1, -1, n) s) :
    wpAny (model prog w) A (Builtin.Slice.sliceApplied (.ref sl) (pure (n : Int))) Q E s := by
  obtain ⟨os, g1, g2, g3⟩ := hs
  unfold Builtin.Slice.sliceApplied Builtin.Slice.sliceFields
  refine wpAny_bind (wpAny_bind (wpAny_field g1 g3 (x := .none) rfl (wpAny_bind (wpAny_field g1 g3 (x := .none) rfl (wpAny_bind (wpAny_field g1 g3 (x := vs) rfl (wpAny_pure ?_)))))))
  refine wpAny_bind (HT.slicePart_ ps ?_)
  show wpAny _ _ (if ((-1 : Int) == 0) = true then _ else _) _ _ s
  rw [if_neg (by decide : ¬ ((-1 : Int) == 0) = true)]
  refine wpAny_bind (HT.slicePart_ (v := .none) .none (wpAny_bind (HT.slicePart_ (v := .none) .none (wpAny_bind (wpAny_pure (wpAny_pure ?_))))))
  have e : (Builtin.Slice.slicePlaces ((n : Int) - 1) (-1) (-1)) = n := by
    unfold Builtin.Slice.slicePlaces
    simp
    omega
  have e2 : Builtin.Slice.sliceAdjust none none (-1) (n : Int) = ((n : Int) - 1, -1) := by
    unfold Builtin.Slice.sliceAdjust
    simp
  show Q ((n : Int) - 1, -1, Builtin.Slice.slicePlaces ((n : Int) - 1) (-1) (-1)) s
  rw [e]; exact h
theorem pick_rev (xs : Array Value) : ((List.range xs.size).filterMap fun (m : Nat) => xs[(((xs.size : Nat) : Int) - 1 + (m : Int) * (-1)).toNat]?).toArray = xs.toList.reverse.toArray := by
  have h1 : ∀ n, n ≤ xs.size → (List.range n).filterMap (fun (m : Nat) => xs[(((xs.size : Nat) : Int) - 1 + (m : Int) * (-1)).toNat]?) = xs.toList.reverse.take n := by
    intro n
    induction n with
    | zero => intro _; simp
    | succ n ih =>
      intro hn
      have e : (((xs.size : Nat) : Int) - 1 + (n : Int) * (-1)).toNat = xs.size - 1 - n := by omega
      have hl : xs.size - 1 - n < xs.size := by omega
      rw [List.range_succ, List.filterMap_append, ih (by omega), List.take_succ, List.getElem?_reverse (by simp; omega)]
      simp only [List.filterMap_cons, List.filterMap_nil, e, Array.getElem?_eq_getElem hl, Array.length_toList]
      rw [Array.getElem?_toList, Array.getElem?_eq_getElem hl]
      rfl
  have := h1 xs.size (Nat.le_refl _)
  rw [this, List.take_of_length_le (by simp)]
theorem getItem_tup_rev {t sl : Addr} {items : Array Value} {vs : Value} {Q : Value → Shared → Prop} (ht : IsTup s.heap t items) (hs : s.heap.IsSliceOf sl .none .none vs) (ps : IsPart vs (some (-1)))
    (h : Q (.ref s.heap.objs.size) { s with heap := s.heap.push { cls := .type "tuple", data := .seq items.toList.reverse.toArray } }) (hz : items.size ≤ sizeLine) : wpAny (model prog w) A (getItem (.ref t) (.ref sl)) Q E s := by
  have hso : sizeOk (.seq items.toList.reverse.toArray) := by
    show items.toList.reverse.toArray.size ≤ sizeLine
    simpa using hz
  have hTs : s.TypeIs (.ref sl) "slice" := by
    obtain ⟨os, g1, g2, _⟩ := id hs
    exact ⟨os, g1, g2⟩
  unfold getItem
  try with_reducible refine wpAny_holding ?_
  first | refine wpAny_bind (wpAny_pure ?_) | skip
  refine wpAny_bind (wpAny_sequenceKey ht.typeIs (by decide) (wpAny_bind (wpAny_callSpecial?_slot (name := Str.ofString "__getitem__") ht.typeIs PyProof.Rows.slot_tuple_getitem (wpAny_call_entry PyProof.Rows.slot_tuple_getitem ht.typeIs entry_tuple_getitem ?_ (args_tuple_getitem _ _)))))
  show wpAny _ _ (Builtin.Tuple.tupleItemsOf (.ref t) >>= _) _ _ s
  refine wpAny_bind (tupleItemsOf_ ht (wpAny_bind (wpAny_typeOf hTs ?_)))
  rw [if_pos (by decide)]
  refine wpAny_bind (applied_rev hs ps ?_)
  show wpAny _ _ (if ((((items.size : Nat) : Int) - 1) == 0 && (-1 : Int) == 1 && items.size == items.size) = true then _ else _) _ _ s
  rw [if_neg (by rw [Bool.and_eq_true, Bool.and_eq_true]; rintro ⟨⟨_, q⟩, _⟩; cases q), pick_rev]
  first
    | exact wpAny_bind (m := Builtin.Tuple.tupleExact _) (wpAny_newObj_type (wpAny_pure ⟨_, rfl, wpAny_pure h⟩) hso)
    | exact wpAny_bind (m := Builtin.Tuple.tupleExact _) (wpAny_newObj_type (wpAny_bind (wpAny_pure (wpAny_pure ⟨_, rfl, wpAny_pure h⟩))) hso)
    | exact wpAny_bind (wpAny_bind (m := Builtin.Tuple.tupleExact _) (wpAny_newObj_type (wpAny_pure (wpAny_pure ⟨_, rfl, wpAny_pure h⟩)) hso))
    | exact wpAny_bind (wpAny_bind (m := Builtin.Tuple.tupleExact _) (wpAny_newObj_type (wpAny_pure ⟨_, rfl, wpAny_pure h⟩) hso))
end
section
variable {X : Cx} {xw : XW}
def tRevT (K : PySem.W.Frag) (te : TE) : TE := fun σ H Q => te σ H fun x H1 => ∃ a xs, x = .ref a ∧ SqT K H1 a xs ∧ NewT H1 Q xs.reverse
theorem pe_revT {e : Expr} {te : TE} {k : Nat} {p1 p2 p3 pos : Pos} (he : PE X e te) : PE X (.Subscript e (.Slice none none (some (.UnaryOp .USub (.Constant (.int 1) k p1) p2)) p3) pos) (fun σ H Q => te σ H fun x H1 => (∃ a xs, x = .ref a ∧ SqL X.K H1 a xs ∧ ∀ p, H1 p = none → Q (.ref p) (upd H1 p (.lst xs.reverse))) ∨ ∃ a xs, x = .ref a ∧ SqT X.K H1 a xs ∧ NewT H1 Q xs.reverse) := by
  refine ⟨fun pins s σ H Q I h => Subscript_ (thn (he.run pins s σ H _ I h) fun v s1 ⟨x, H1, I1, r1, q1⟩ => ?_)⟩
  have hm1 : PO X (some (.UnaryOp .USub (.Constant (.int 1) k p1) p2)) (tPart (tUn (rU fun i => .int (-i)) (tC (.int 1)))) := po_some (pe_un un_neg pe_int)
  refine wpAny_Slice (thn (po_none.run pins s1 σ H1 (fun o H2 => o = none ∧ H2 = H1) I1 ⟨rfl, rfl⟩) fun vl s2 ⟨l, H2, I2, pl, el, e2⟩ => ?_)
  subst el e2
  refine thn (po_none.run pins s2 σ H2 (fun o H3 => o = none ∧ H3 = H2) I2 ⟨rfl, rfl⟩) fun vu s3 ⟨u, H3, I3, pu, eu, e3⟩ => ?_
  subst eu e3
  refine thn (hm1.run pins s3 σ H3 (fun o H4 => o = some (-1) ∧ H4 = H3) I3 ⟨1, rfl, -1, rfl, rfl, rfl⟩) fun vs s4 ⟨o, H4, I4, ps, eo, e4⟩ => ?_
  subst eo e4
  have J : Inv X pins σ H4 { s4 with heap := s4.heap.push { cls := .type "slice", data := .fields #[vl, vu, vs] } } := I4.kept (t' := s4.toks) fun b ob q => Heap.get?_push_of_some _ q
  have el : vl = .none := by cases pl; rfl
  have eu : vu = .none := by cases pu; rfl
  subst el eu
  rcases q1 with ⟨a, xs, ex, hx, q⟩ | ⟨a, xs, ex, hx, q⟩
  · subst ex
    cases r1
    obtain ⟨its, r, ht, hz⟩ := J.list hx
    have hlen := r.length
    show wpAny (model X.prog X.w) X.A (subscriptTail e (.Slice none none (some (.UnaryOp .USub (.Constant (.int 1) k p1) p2)) p3) (.ref a) (.ref s4.heap.objs.size)) (EP X pins σ Q) X.xe _
    refine tail_any (ops := [.ref a, .ref s4.heap.objs.size]) ht.isList.typeIs (PySem.slot_list_getitem.lookup) (wpAny_getItem_list_slice ht.isList (Heap.IsSliceOf.new _ .none .none vs) .none .none ps (by decide) ?_ (by rw [List.size_toArray]; omega)) (by with_unfolding_all rfl)
    rw [PySem.W.krv_pick]
    exact ⟨.ref _, _, J.laid (t' := s4.toks) (o := .lst xs.reverse) (fun b ob q => Heap.get?_push_of_some _ q) (Nat.le_refl _) ⟨by rw [List.length_reverse]; exact hz, _, 0, r.reverse, Heap.get?_push_size _ rfl⟩, rfl, q _ (J.hok.fresh (Nat.le_refl _))⟩
  · subst ex
    cases r1
    obtain ⟨its, r, ht, hz⟩ := J.tuple hx
    have hlen := r.length
    show wpAny (model X.prog X.w) X.A (subscriptTail e (.Slice none none (some (.UnaryOp .USub (.Constant (.int 1) k p1) p2)) p3) (.ref a) (.ref s4.heap.objs.size)) (EP X pins σ Q) X.xe _
    refine tail_any (ops := [.ref a, .ref s4.heap.objs.size]) ht.typeIs (PyProof.Rows.slot_tuple_getitem.lookup) (getItem_tup_rev ht (Heap.IsSliceOf.new _ .none .none vs) ps ?_ (by rw [List.size_toArray]; omega)) (by with_unfolding_all rfl)
    exact J.pushT (t' := s4.toks) (by rw [List.length_reverse]; exact hz) r.reverse q
def revW (f : WE) : WE := fun ρ K Xc => f ρ (fun d => match d with
  | .list xs => K (.list xs.reverse)
  | .tuple xs => K (.tuple xs.reverse)
  | _ => False) Xc
theorem ed_rev [TabsC] {e : Expr} {f : WE} {k : Nat} {p1 p2 p3 pos : Pos} (he : ED X xw e f) : ED X xw (.Subscript e (.Slice none none (some (.UnaryOp .USub (.Constant (.int 1) k p1) p2)) p3) pos) (revW f) := by
  refine ⟨PE.imp (pe_revT he.pe) fun σ H Q ⟨Hf, Hh, Hx, ρ, P, S, q⟩ => ?_, fun ρ K1 K2 X1 X2 hk hx h => he.mo _ _ _ _ _ (fun d q => ?_) hx h⟩
  · refine LE.at he.mo P S q (fun d hd v H' Hf' Hh' T' P' R' => ?_) (fun c hc => hc)
    split at hd
    · cases R' with | list e1 z r =>
      exact .inl ⟨_, _, rfl, SqL.up e1 P'.sub, fun p hp => (hd.tr T').new P' hp (.list upd_same (by rw [List.length_reverse]; exact z) ((r.mono (tr_new (P'.fresh hp).1)).reverse))⟩
    · cases R' with | tuple e1 z r =>
      exact .inr ⟨_, _, rfl, SqT.sub e1 P'.sub, (hd.tr T').newT P' (by rw [List.length_reverse]; exact z) r.reverse⟩
    · exact hd.elim
  · split at q <;> first | exact hk _ q | exact q.elim
end
section
variable {prog : Program} {w : World} {A : Around} {E : Value → Shared → Prop} {s : Shared}
theorem tup_mul_same (l : Addr) (items : Array Value) (n : Nat) (dd : Option Addr) (sl : Array (Option Value)) (x : Int) (u : Tok) (c0 : (decide (x < -(2 ^ 63)) || decide (x ≥ 2 ^ 63)) = false) (c1 : (items.isEmpty || x == 1) = true) :
    Meets (Builtin.«tuple.__mul__» ⟨[.ref l, .int x u], []⟩) (fun _ R s => s.heap.get? l = some { cls := .type "tuple", dict := dd, data := .seq items n, slots := sl } ∧ R (.ok (.ret (Value.ref l))) s) :=
  .of_wp fun prog w A R s h => by
    obtain ⟨hp, g, d, tk, os⟩ := s
    obtain ⟨hl, h⟩ := h
    have f1 := AutoSeq1.idx_int
    wp_walk using wpAny_loadPart' hl
    repeat (first
      | (refine wpAny_ite_false (decide_eq_false (by rw [c0]; exact Bool.false_ne_true)) ?_; wp_walk using wpAny_loadPart' hl)
      | (refine wpAny_ite_true (decide_eq_true c1) ?_; wp_walk using wpAny_loadPart' hl))
    exact ⟨_, rfl, h⟩
theorem tup_mul_none (l : Addr) (items : Array Value) (n : Nat) (dd : Option Addr) (sl : Array (Option Value)) (x : Int) (u : Tok) (c0 : (decide (x < -(2 ^ 63)) || decide (x ≥ 2 ^ 63)) = false) (c1 : (items.isEmpty || x == 1) = false) (c2 : (decide (x ≤ 0) || items.isEmpty) = true) :
    Meets (Builtin.«tuple.__mul__» ⟨[.ref l, .int x u], []⟩) (fun _ R s => s.heap.get? l = some { cls := .type "tuple", dict := dd, data := .seq items n, slots := sl } ∧
      R (.ok (.ret (Value.ref s.heap.objs.size))) { s with heap := s.heap.push { cls := Value.type "tuple", data := Data.seq #[] }, toks := s.toks }) :=
  .of_wp fun prog w A R s h => by
    obtain ⟨hp, g, d, tk, os⟩ := s
    obtain ⟨hl, h⟩ := h
    have f1 := AutoSeq1.idx_int
    wp_walk using wpAny_loadPart' hl
    repeat (first
      | (refine wpAny_ite_false (decide_eq_false (by rw [c0]; exact Bool.false_ne_true)) ?_; wp_walk using wpAny_loadPart' hl)
      | (refine wpAny_ite_false (decide_eq_false (by rw [c1]; exact Bool.false_ne_true)) ?_; wp_walk using wpAny_loadPart' hl)
      | (refine wpAny_ite_true (decide_eq_true c2) ?_; wp_walk using wpAny_loadPart' hl))
    exact ⟨_, rfl, h⟩
end
end DL

set_option Elab.async false
set_option linter.all false
set_option maxRecDepth 100000
set_option maxHeartbeats 4000000
namespace DL
open PySem PySem.Spec PyProof.Rows L2
section
variable {X : Cx}
def rRepA (K : PySem.W.Frag) : R2 := fun x y H Q => ∃ l k xs, x = .ref l ∧ y = .int k ∧ SqT K H l xs ∧ -(2 ^ 62) ≤ k ∧ k ≤ 1000 ∧ xs.length ≤ 1000 ∧ ((xs = [] ∨ k = 1) → Q (.ref l) H) ∧ (xs ≠ [] → k ≤ 0 → NewT H Q []) ∧
  (xs ≠ [] → 2 ≤ k → NewT H Q (List.replicate k.toNat xs).flatten)
theorem op_repA : OpR X (binaryOp .Mult) (rRepA X.K) := by
  intro pins s σ H x y v u Q I rx ry h
  obtain ⟨l, k, xs, rfl, rfl, hT, hlo, hhi, hz, q0, q1, q2⟩ := h
  by_cases h2 : xs ≠ [] ∧ 2 ≤ k
  · exact op_repF pins s σ H _ _ v u Q I rx ry ⟨l, k, xs, rfl, rfl, hT, h2.1, h2.2, hhi, hz, q2 h2.1 h2.2⟩
  · cases rx
    obtain ⟨t, rfl⟩ := ry
    obtain ⟨its, r, ⟨⟨cls, dd, data, sl⟩, ho, hc, n, hd⟩, hs⟩ := I.tuple hT
    simp only at hc hd
    subst hc hd
    have hle := r.length
    have e0 : its.toArray.isEmpty = decide (xs = []) := by
      cases its with
      | nil => cases r; rfl
      | cons a b => cases r; rfl
    have c0 : (decide (k < -(2 ^ 63)) || decide (k ≥ 2 ^ 63)) = false := by
      rw [Bool.or_eq_false_iff]
      exact ⟨decide_eq_false (by omega), decide_eq_false (by omega)⟩
    by_cases h1 : xs = [] ∨ k = 1
    · have c1 : (its.toArray.isEmpty || k == 1) = true := by
        rw [e0]
        rcases h1 with h1 | h1
        · simp [h1]
        · simp [h1]
      exact wpAny_binaryOp_repeat_ref (T := "tuple") (U := "int") (by decide) ⟨_, ho, rfl⟩ (fun s' => typeIs_int s' k t) noFill_tuple_mul F.fills_int_mul F.slot_int_rmul repeat_tuple F.slot_int_index.lookup
        (call_meets F.slot_int_rmul (typeIs_int s k t) F.entry_int_rmul (F.args_int_rmul_2 _ _) (int_rmul_tuple k t l its.toArray n dd sl)
          ⟨ho, rfl, ⟨_, ho, rfl⟩, call_meets F.slot_tuple_mul ⟨_, ho, rfl⟩ F.entry_tuple_mul (F.args_tuple_mul_2 _ _) (tup_mul_same l its.toArray n dd sl k t c0 c1) ⟨ho, .ref l, H, I, rfl, q0 h1⟩⟩)
    · have hne : xs ≠ [] := fun e => h1 (.inl e)
      have hk : k ≤ 0 := by
        have a1 : ¬ k = 1 := fun e => h1 (.inr e)
        have a2 : ¬ 2 ≤ k := fun e => h2 ⟨hne, e⟩
        omega
      have c1 : (its.toArray.isEmpty || k == 1) = false := by
        rw [e0, decide_eq_false hne, Bool.false_or]
        exact beq_eq_false_iff_ne.mpr (by omega)
      have c2 : (decide (k ≤ 0) || its.toArray.isEmpty) = true := by rw [decide_eq_true hk]; rfl
      refine wpAny_binaryOp_repeat_ref (T := "tuple") (U := "int") (by decide) ⟨_, ho, rfl⟩ (fun s' => typeIs_int s' k t) noFill_tuple_mul F.fills_int_mul F.slot_int_rmul repeat_tuple F.slot_int_index.lookup
        (call_meets F.slot_int_rmul (typeIs_int s k t) F.entry_int_rmul (F.args_int_rmul_2 _ _) (int_rmul_tuple k t l its.toArray n dd sl)
          ⟨ho, rfl, ⟨_, ho, rfl⟩, call_meets F.slot_tuple_mul ⟨_, ho, rfl⟩ F.entry_tuple_mul (F.args_tuple_mul_2 _ _) (tup_mul_none l its.toArray n dd sl k t c0 c1 c2) ⟨ho, ?_⟩⟩)
      exact I.pushT (t' := s.toks) (its := []) (Nat.zero_le _) .nil (q1 hne hk)
end
variable [TabsC]
def mulA : W2 := fun x y K => match x, y with
  | .int a, .int b => CMul a b ∧ K (.int (a * b))
  | .tuple xs, .int k => (-(2 ^ 62) ≤ k ∧ k ≤ 1000 ∧ xs.length ≤ 1000) ∧ K (.tuple (repD xs k))
  | .list xs, .int k => (k < 2 ^ 62 ∧ -(2 ^ 62) < k ∧ xs.length * k.toNat ≤ sizeLine) ∧ K (.list (repD xs k))
  | _, _ => False
theorem rep_one {α : Type} (xs : List α) : (List.replicate (Int.toNat 1) xs).flatten = xs := by
  show ([xs] : List (List α)).flatten = xs
  simp
section
variable {X : Cx} {xw : XW}
theorem od_mulA : OpD X (binaryOp .Mult) mulA := by
  refine ⟨OpR.imp (OpR.or op_mul (OpR.or op_repA op_rep)) fun x y H Q ⟨Hf, Hh, Hx, dx, dy, P, rx, ry, h⟩ => ?_, fun x y K1 K2 hk h => ?_⟩
  · unfold mulA at h
    split at h
    · cases rx; cases ry; exact .inl ⟨_, _, rfl, rfl, h.1, h.2.now P (.int _)⟩
    · rename_i xs k
      cases rx with | tuple s1 z1 r1 k1 =>
      cases ry
      obtain ⟨⟨h1, h2, h3⟩, h⟩ := h
      have e1 := r1.length
      refine .inr (.inl ⟨_, _, _, rfl, rfl, SqT.sub s1 P.sub, by omega, h2, by omega, fun hq => ?_, fun hne hk => ?_, fun hne hk => ?_⟩)
      · have e : repD xs k = xs := by
          unfold repD
          rcases hq with hq | hq
          · subst hq
            cases r1
            exact List.eq_nil_of_length_eq_zero (by rw [length_rep]; simp)
          · subst hq; exact rep_one xs
        rw [e] at h
        exact h.now P (.tuple s1 z1 r1 k1)
      · have e : repD xs k = [] := by
          unfold repD
          rw [show k.toNat = 0 by omega]; rfl
        rw [e] at h
        exact h.newT P (Nat.zero_le _) .nil
      · refine h.newT P ?_ (r1.rep _)
        rw [length_rep, sizeLine_eq]
        exact rep_le (by omega) (by omega)
    · cases rx with | list s1 z1 r1 =>
      cases ry
      obtain ⟨⟨h1, h2, h3⟩, h⟩ := h
      have e1 := r1.length
      refine .inr (.inr ⟨_, _, _, rfl, rfl, P.sub _ _ s1, by omega, by omega, by rw [e1]; exact h3, fun p hp => ?_⟩)
      have t := fun o => tr_new (Hh := Hh) (o := o) (P.fresh hp).1
      refine h.new P hp (.list upd_same ?_ ((r1.mono (t _)).rep _))
      rw [length_rep, e1]; exact h3
    · exact h.elim
  · unfold mulA at h ⊢
    split at h <;> first | exact ⟨h.1, hk _ h.2⟩ | exact h.elim
/-- [e] * n, a new list -/
def repL : W2 := fun x y K => match x, y with
  | .list xs, .int k => (k < 2 ^ 62 ∧ -(2 ^ 62) < k ∧ xs.length * k.toNat ≤ 16777216) ∧ K (.list (repD xs k))
  | _, _ => False
theorem mono_repL : Mono2 repL := fun x y K1 K2 hk h => by
  unfold repL at h ⊢
  split at h <;> first | exact ⟨h.1, hk _ h.2⟩ | exact h.elim
theorem fd_rep {a b : Expr} {fa fb : WE} {pos : Pos} (ha : ED X xw a fa) (hb : ED X xw b fb) : FD X xw (.BinOp a .Mult b pos) (binW repL fa fb) := by
  refine ⟨PE.imp (pe_op op_rep ha.pe hb.pe) fun σ H Q ⟨Hf, Hh, Hx, ρ, P, S, q⟩ => ?_, mono_bin mono_repL ha.mo hb.mo⟩
  refine LE.at ha.mo P S q (fun x h1 v1 H1 Hf1 Hh1 T1 P1 R1 => ?_) (fun c hc => hc)
  refine LE.at hb.mo P1 (S.mono T1) h1 (fun y h2 v2 H2 Hf2 Hh2 T2 P2 R2 => ?_) (fun c hc => hc.tr T1)
  unfold repL at h2
  split at h2
  · have R1 := R1.mono T2
    cases R1 with | list s1 z1 r1 =>
    cases R2
    obtain ⟨⟨g1, g2, g3⟩, h2⟩ := h2
    have e1 := r1.length
    refine ⟨_, _, _, rfl, rfl, P2.sub _ _ s1, by omega, by omega, by rw [e1, sizeLine_eq]; exact g3, fun p hp => h2 p _ H2 Hf2 Hh2 (T1.trans T2) P2 hp ⟨_, rfl, ?_, r1.rep _⟩⟩
    rw [length_rep, e1, sizeLine_eq]; exact g3
  · exact h2.elim
def setIW (b : Bool) (i : Nat) (fv fi : WE) : WS := fun ρ k => ownL ρ i fun ds => fv (view b ρ) (fun v => fi (view b ρ) (fun j => match j with
  | .int j => ∃ n, ixN ds.length j = some n ∧ (b = true → v.flat = true) ∧ k.nx (ρ.set i (some (.own (.list (ds.set n v)))))
  | _ => False) k.xc) k.xc
theorem sd_setI {i : Nat} {x : Str} {e1 e2 : Expr} {fv fi : WE} {np spos pos : Pos} (b : Bool) (hv : ED X xw e2 fv) (hi : ED X xw e1 fi) (hN : X.N[i]? = some x := by rfl) (hvis : Vis X.env.scope x := by first | exact Or.inl rfl | exact Or.inr (Or.inl rfl) | exact Or.inr (Or.inr rfl))
    (hd : (x == ("__debug__" : Str)) = false := by decide) (hcd : (x == ("__classdict__" : Str)) = false := by decide)
    (hp : ∀ t ti, PE X e2 t → PE X e1 ti → PS X (.Assign [.Subscript (.Name x np) e1 spos] e2 pos) (tAsg t (gSub (tVar i) ti rSetL)) := by
      exact fun t ti ht hti => ps_asg ht (pg_sub (pv _) hti set_list)) :
    SD X xw (.Assign [.Subscript (.Name x np) e1 spos] e2 pos) (setIW b i fv fi) := by
  refine ⟨PS.imp (hp _ _ hv.pe hi.pe) fun Dn σ H ⟨HxC, Hf, Hh, Hx, ρ, P, S, q⟩ => ?_, fun ρ k1 k2 l q => ownL_mono (fun ds q => hv.mo _ _ _ _ _ (fun v q => hi.mo _ _ _ _ _ (fun j q => ?_) (fun c q => l.xc _ q) q) (fun c q => l.xc _ q) q) q⟩
  · unfold setIW ownL at q
    split at q
    · rename_i ds eo
      refine stE hv.mo b P S q (fun d hd v H1 Hf1 Hh1 t1 p1 s1 rv => ?_) (fun c hc => hc)
      obtain ⟨a, vs, h1, h2, h3, z, r⟩ := ss_own s1 eo
      refine ⟨.ref a, h1, ?_⟩
      refine stE hi.mo b p1 s1 hd (fun j hj u H2 Hf2 Hh2 t2 p2 s2 rj => ?_) (fun c hc => hc.tr t1)
      split at hj
      · rename_i j
        obtain ⟨n, hn, hfl, hj⟩ := hj
        have rj := rj fun _ => rfl
        cases rj
        refine ⟨a, vs, j, n, rfl, rfl, (p2.x a _ h2).1, by rw [r.length]; exact hn, ?_⟩
        exact hj _ _ Hf2 Hh2 _ (t1.trans t2) (p2.setX h2) (s2.mut eo h1 h3 ⟨vs.set n v, rfl, by rw [List.length_set]; exact z, (r.mono t2).set n ((rv hfl).mono t2)⟩)
      · exact hj.elim
    · exact q.elim
  · split at q
    · obtain ⟨n, e, q1, q2⟩ := q; exact ⟨n, e, q1, l.nx _ q2⟩
    · exact q.elim
def augW (b : Bool) (i : Nat) (g : Int → Int → Int) (f : WE) : WS := fun ρ k => match ρ[i]? with
  | some (some (.fz (.int a))) => f (view b ρ) (fun d => match d with
    | .int c => k.nx (ρ.set i (some (.fz (.int (g a c)))))
    | _ => False) k.xc
  | _ => False
theorem sd_aug {i : Nat} {x : Str} {op : Operator} {g : Int → Int → Int} {e : Expr} {f : WE} {pos pos' : Pos} (b : Bool) (hN : X.N.Nodup) (ho : PIp X op (ipI g)) (he : ED X xw e f) (hi : X.N[i]? = some x := by rfl) (hx : Loc X.env.scope x := by first | exact .inl rfl | exact .inr rfl)
    (hf : X.fn x = true ∨ X.env.scope.names.lookup x = some .local := by first | exact .inl rfl | exact .inr rfl) :
    SD X xw (.AugAssign (.Name x pos') op e pos) (augW b i g f) := by
  refine ⟨PS.imp (ps_aug hN hi hx he.pe ho hf) fun Dn σ H ⟨HxC, Hf, Hh, Hx, ρ, P, S, q⟩ => ?_, fun ρ k1 k2 l q => ?_⟩
  · unfold augW at q
    split at q
    · rename_i a ea
      obtain ⟨v, h1, r⟩ := S.fz i _ ea
      cases r
      refine ⟨_, h1, ?_⟩
      refine stE he.mo b P S q (fun d hd v H1 Hf1 Hh1 t1 p1 s1 rv => ?_) (fun c hc => hc)
      split at hd
      · have rv := rv fun _ => rfl
        cases rv
        exact ⟨_, _, rfl, rfl, hd _ _ Hf1 Hh1 _ t1 p1 (s1.put (.int _))⟩
      · exact hd.elim
    · exact q.elim
  · unfold augW at q ⊢
    split at q
    · exact he.mo _ _ _ _ _ (fun d q => by split at q <;> first | exact l.nx _ q | exact q.elim) (fun c q => l.xc _ q) q
    · exact q.elim
end
end DL

set_option Elab.async false
set_option linter.all false
set_option maxRecDepth 100000
set_option maxHeartbeats 4000000
namespace DL
open PySem PySem.Spec PyProof.Rows L2
variable [TabsC]
section
variable {K : PySem.W.Frag} {HxC Hf Hh Hx H : Hp} {σ : St} {ρ : SEnv}
theorem RpAll.dropLast : ∀ {vs : List V} {ds : List D}, RpAll K Hf Hh vs ds → RpAll K Hf Hh vs.dropLast ds.dropLast
  | _, _, .nil => .nil
  | _, _, .cons a .nil => .nil
  | _, _, .cons a (.cons b r) => .cons a (RpAll.dropLast (.cons b r))
theorem RpAll.eraseIdx : ∀ {vs : List V} {ds : List D} (n : Nat), RpAll K Hf Hh vs ds → RpAll K Hf Hh (vs.eraseIdx n) (ds.eraseIdx n)
  | _, _, _, .nil => .nil
  | _, _, 0, .cons a r => r
  | _, _, n + 1, .cons a r => .cons a (RpAll.eraseIdx n r)
/-- a new object stands in the rest, no slot holds it yet -/
theorem Ss.addX (S : Ss K HxC Hf Hh Hx σ ρ) {p : Addr} {o : HO} (h : Hx p = none) : Ss K HxC Hf Hh (upd Hx p o) σ ρ := by
  have hC : HxC p = none := by
    cases e : HxC p with
    | none => rfl
    | some u => have := S.sub _ _ e; rw [h] at this; cases this
  refine ⟨S.len, S.fz, fun i d e => ?_, S.trk, S.sep, fun a u e => ?_⟩
  · obtain ⟨a, u, h1, h2, h3, h4⟩ := S.own i d e
    exact ⟨a, u, h1, by rw [upd_ne (ne_of_none h2 h)]; exact h2, h3, h4⟩
  · rw [upd_ne (ne_of_none e hC)]; exact S.sub a u e
/-- a slot takes an object that no slot holds -/
theorem Ss.take (S : Ss K HxC Hf Hh Hx σ ρ) {i : Nat} {p : Addr} {o : HO} {d : D} (hp : Hx p = some o) (hC : HxC p = none) (r : OwnR K Hf Hh o d) (hf : ∀ (j : Nat) (e : D), ρ[j]? = some (some (.own e)) → σ[j]? ≠ some (some (.ref p))) : Ss K HxC Hf Hh Hx (σ.set i (some (.ref p))) (ρ.set i (some (.own d))) := by
  have other : ∀ {j : Nat} {x : Option SV}, j ≠ i → (ρ.set i (some (.own d)))[j]? = some x → ρ[j]? = some x := fun h e => by rw [List.getElem?_set_ne (Ne.symm h)] at e; exact e
  have same : ∀ {x : Option SV}, (ρ.set i (some (.own d)))[i]? = some x → x = some (.own d) ∧ i < ρ.length := fun {x} e => by
    rw [List.getElem?_set] at e
    simp only [if_true] at e
    split at e
    · rename_i h; exact ⟨(Option.some.inj e).symm, h⟩
    · cases e
  have at_i : i < ρ.length → (σ.set i (some (V.ref p)))[i]? = some (some (.ref p)) := fun h => by rw [List.getElem?_set_self (by rw [← S.len]; exact h)]
  have at_j : ∀ {j : Nat}, j ≠ i → (σ.set i (some (V.ref p)))[j]? = σ[j]? := fun h => by rw [List.getElem?_set_ne (Ne.symm h)]
  refine ⟨by simpa using S.len, fun j e h => ?_, fun j e h => ?_, fun j e h => ?_, fun j l e e' a hjl g1 g2 g3 => ?_, S.sub⟩
  · have hj : j ≠ i := fun z => by subst z; cases (same h).1
    rw [at_j hj]; exact S.fz j e (other hj h)
  · by_cases hj : j = i
    · subst hj
      obtain ⟨q, hl⟩ := same h
      cases q
      exact ⟨p, o, at_i hl, hp, hC, r⟩
    · rw [at_j hj]; exact S.own j e (other hj h)
  · have hj : j ≠ i := fun z => by subst z; cases (same h).1
    rw [at_j hj]; exact S.trk j e (other hj h)
  · by_cases hj : j = i
    · subst hj
      rw [at_i (same g1).2] at g3
      cases g3
      rw [at_j (Ne.symm hjl)]
      exact hf l e' (other (Ne.symm hjl) g2)
    · rw [at_j hj] at g3
      by_cases hl : l = i
      · subst hl
        rw [at_i (same g2).2]
        intro q
        cases q
        exact hf j e (other hj g1) g3
      · rw [at_j hl]
        exact S.sep j l e e' a hjl (other hj g1) (other hl g2) g3
end
section
variable {X : Cx} {xw : XW}
/-- x.pop() -/
def popW (i : Nat) : WS := fun ρ k => ownL ρ i fun ds => ds ≠ [] ∧ k.nx (ρ.set i (some (.own (.list ds.dropLast))))
theorem sd_pop {i : Nat} {x : Str} {np apos cpos pos : Pos} (hN : X.N[i]? = some x := by rfl) (hv : Vis X.env.scope x := by first | exact Or.inl rfl | exact Or.inr (Or.inl rfl) | exact Or.inr (Or.inr rfl))
    (hd : (x == ("__debug__" : Str)) = false := by decide) (hcd : (x == ("__classdict__" : Str)) = false := by decide)
    (hp : PS X (.Expr (.Call (.Attribute (.Name x np) (Str.ofString "pop") apos) [] [] cpos) pos) (tDrop (tBM0 X.K "list" rPop (tVar i))) := by
      exact ps_expr (pe_bm0 PySem.F.plainAttrs_list PySem.F.slot_list_pop PySem.F.type_list_pop mt_pop (pv _))) :
    SD X xw (.Expr (.Call (.Attribute (.Name x np) (Str.ofString "pop") apos) [] [] cpos) pos) (popW i) := by
  refine ⟨PS.imp hp fun Dn σ H ⟨HxC, Hf, Hh, Hx, ρ, P, S, q⟩ => ?_, fun ρ k1 k2 l q => ownL_mono (fun ds q => ⟨q.1, l.nx _ q.2⟩) q⟩
  unfold popW ownL at q
  split at q
  · rename_i ds eo
    obtain ⟨hne, q⟩ := q
    obtain ⟨a, vs, h1, h2, h3, z, r⟩ := ss_own S eo
    have hl := r.length
    have hpos : 0 < vs.length := by
      rw [hl]
      cases ds with
      | nil => exact absurd rfl hne
      | cons => simp
    refine ⟨.ref a, h1, .inl ⟨rfl, vs, SqL.of (P.x a _ h2).1⟩, a, vs, vs[vs.length - 1], rfl, rfl, (P.x a _ h2).1, List.getElem?_eq_getElem (by omega), ?_⟩
    exact q _ _ Hf Hh _ (Tr.refl _ _) (P.setX h2) (S.mut eo h1 h3 ⟨vs.dropLast, rfl, by rw [List.length_dropLast]; omega, r.dropLast⟩)
  · exact q.elim
/-- x.append(y.pop(e)) -/
def appPopW (b : Bool) (i j : Nat) (f : WE) : WS := fun ρ k => ownL ρ i fun ds => ownL ρ j fun es => f (view b ρ) (fun d => match d with
  | .int m => ∃ n y, (-(2 ^ 63) ≤ m ∧ m < 2 ^ 63) ∧ seqIndex? m es.length = some n ∧ es[n]? = some y ∧ ds.length < 16777216 ∧ k.nx ((ρ.set j (some (.own (.list (es.eraseIdx n))))).set i (some (.own (.list (ds ++ [y])))))
  | _ => False) k.xc
theorem sd_appPop {i j : Nat} {x y : Str} {e : Expr} {f : WE} {np apos cpos np2 apos2 cpos2 pos : Pos} (b : Bool) (hij : i ≠ j) (h : ED X xw e f) (hN : X.N[i]? = some x := by rfl) (hv : Vis X.env.scope x := by first | exact Or.inl rfl | exact Or.inr (Or.inl rfl) | exact Or.inr (Or.inr rfl))
    (hd : (x == ("__debug__" : Str)) = false := by decide) (hcd : (x == ("__classdict__" : Str)) = false := by decide)
    (hp : ∀ t, PE X e t → PS X (.Expr (.Call (.Attribute (.Name x np) (Str.ofString "append") apos) [.Call (.Attribute (.Name y np2) (Str.ofString "pop") apos2) [e] [] cpos2] [] cpos) pos) (tDrop (tBM X.K "list" rAppend (tVar i) (tCons (tBM X.K "list" rPopAt (tVar j) (tCons t tNil)) tNil))) := by
      exact fun t ht => ps_expr (pe_bm PySem.F.plainAttrs_list PySem.F.slot_list_append PySem.F.type_list_append mt_append (pv _) (pa_cons (pe_bm PySem.F.plainAttrs_list PySem.F.slot_list_pop PySem.F.type_list_pop mt_popAt (pv _) (pa_cons ht pa_nil)) pa_nil))) :
    SD X xw (.Expr (.Call (.Attribute (.Name x np) (Str.ofString "append") apos) [.Call (.Attribute (.Name y np2) (Str.ofString "pop") apos2) [e] [] cpos2] [] cpos) pos) (appPopW b i j f) := by
  refine ⟨PS.imp (hp _ h.pe) fun Dn σ H ⟨HxC, Hf, Hh, Hx, ρ, P, S, q⟩ => ?_, fun ρ k1 k2 l q => ownL_mono (fun ds q => ownL_mono (fun es q => h.mo _ _ _ _ _ (fun d q => ?_) (fun c q => l.xc _ q) q) q) q⟩
  · unfold appPopW ownL at q
    split at q
    · rename_i ds eo
      split at q
      · rename_i es eo2
        obtain ⟨a, vs, h1, h2, h3, z, r⟩ := ss_own S eo
        obtain ⟨c, us, g1, g2, g3, z2, r2⟩ := ss_own S eo2
        have hac : a ≠ c := fun e => by subst e; exact S.sep i j _ _ a hij eo eo2 h1 g1
        refine ⟨.ref a, h1, .inl ⟨rfl, vs, SqL.of (P.x a _ h2).1⟩, .ref c, g1, .inl ⟨rfl, us, SqL.of (P.x c _ g2).1⟩, ?_⟩
        refine stE h.mo b P S q (fun d hd v H' Hf2 Hh' t2 p2 s2 rv => ?_) (fun c hc => hc)
        split at hd
        · have rv := rv fun _ => rfl
          cases rv
          obtain ⟨n, y, hm, hn, hy, hz, hd⟩ := hd
          have r' := r.mono t2
          have r2' := r2.mono t2
          obtain ⟨u, hu, ru⟩ := r2'.get hy
          refine ⟨c, us, _, n, u, rfl, rfl, (p2.x c _ g2).1, hm.1, hm.2, by rw [r2.length]; exact hn, hu, ?_⟩
          have p3 := p2.setX (o' := .lst (us.eraseIdx n)) g2
          have s3 := s2.mut (o := .lst (us.eraseIdx n)) (d := .list (es.eraseIdx n)) eo2 g1 g3 ⟨_, rfl, Nat.le_trans (List.length_eraseIdx_le us n) z2, r2'.eraseIdx n⟩
          have h2' : (upd Hx c (.lst (us.eraseIdx n))) a = some (.lst vs) := by rw [upd_ne hac]; exact h2
          have eo' : (ρ.set j (some (.own (.list (es.eraseIdx n)))))[i]? = some (some (.own (.list ds))) := by rw [List.getElem?_set_ne (Ne.symm hij)]; exact eo
          have hz' : vs.length < sizeLine := by rw [r.length, sizeLine_eq]; exact hz
          refine ⟨a, vs, u, rfl, rfl, (p3.x a _ h2').1, hz', ?_⟩
          exact hd _ _ Hf2 Hh' _ t2 (p3.setX h2') (s3.mut eo' h1 h3 ⟨vs ++ [u], rfl, by rw [List.length_append]; exact hz', r'.append (.cons ru .nil)⟩)
        · exact hd.elim
      · exact q.elim
    · exact q.elim
  · split at q
    · obtain ⟨n, y, a1, a2, a3, a4, q⟩ := q; exact ⟨n, y, a1, a2, a3, a4, l.nx _ q⟩
    · exact q.elim
/-- x, y = F, e: x owns what F makes -/
def parOW (b : Bool) (i j : Nat) (f g : WE) : WS := fun ρ k => f (view b ρ) (fun d => (b = true → d.flatIn = true) ∧ g (view b ρ) (fun e => (b = true → e.flat = true) ∧ k.nx ((ρ.set i (some (.own d))).set j (some (.fz e)))) k.xc) k.xc
def parOOW (b : Bool) (i j : Nat) (f g : WE) : WS := fun ρ k => f (view b ρ) (fun d => (b = true → d.flatIn = true) ∧ g (view b ρ) (fun e => (b = true → e.flatIn = true) ∧ k.nx ((ρ.set i (some (.own d))).set j (some (.own e)))) k.xc) k.xc
theorem not_held {K : PySem.W.Frag} {HxC Hf Hh Hx : Hp} {σ : St} {ρ : SEnv} (S : Ss K HxC Hf Hh Hx σ ρ) {p : Addr} (h : Hx p = none) (j : Nat) (e : D) (he : ρ[j]? = some (some (.own e))) : σ[j]? ≠ some (some (.ref p)) := fun q => by
  obtain ⟨a, o, h1, h2, _⟩ := S.own j e he
  rw [q] at h1; cases h1
  rw [h] at h2; cases h2
theorem noC {K : PySem.W.Frag} {HxC Hf Hh Hx : Hp} {σ : St} {ρ : SEnv} (S : Ss K HxC Hf Hh Hx σ ρ) {p : Addr} (h : Hx p = none) : HxC p = none := by
  cases e : HxC p with
  | none => rfl
  | some u => have := S.sub _ _ e; rw [h] at this; cases this
theorem d_parO (b : Bool) (i j : Nat) {x y : Str} {a c : Expr} {f g : WE} {px py pt : Pos} {kt k2 pt2} {pos : Pos} (hN : X.N.Nodup) (hf : FD X xw a f) (hg : ED X xw c g) (hc : X.calm = true := by rfl) (hi : X.N[i]? = some x := by rfl) (hj : X.N[j]? = some y := by rfl) (hij : i ≠ j := by decide)
    (hx : X.env.scope.names.lookup x = some .local := by rfl) (hy : X.env.scope.names.lookup y = some .local := by rfl) (hsa : starEach [a, c] X.env = (false, eval a X.env) :: starEach [c] X.env := by rfl) (hsb : starEach [c] X.env = (false, eval c X.env) :: starEach [] X.env := by rfl)
    (hw : swappedStores [.Tuple [.Name x px, .Name y py] kt pt] (.Tuple [a, c] k2 pt2) X.env = pure (some [x, y]) := by rfl)
    (hs : swapsWithSole [.Tuple [.Name x px, .Name y py] kt pt] (.Tuple [a, c] k2 pt2) pos.line X.env = pure false := by rfl) :
    SD X xw (.Assign [.Tuple [.Name x px, .Name y py] kt pt] (.Tuple [a, c] k2 pt2) pos) (parOW b i j f g) := by
  refine ⟨PS.imp (ps_par hc hN hi hj hij hx hy (pa_cons hf.pe (pa_cons hg.pe pa_nil hsb) hsa) hw hs) fun Dn σ H ⟨HxC, Hf, Hh, Hx, ρ, P, S, q⟩ => ?_, fun ρ k1 k2 l q => hf.mo _ _ _ _ _ (fun d q => ⟨q.1, hg.mo _ _ _ _ _ (fun e q => ⟨q.1, l.nx _ q.2⟩) (fun c q => l.xc _ q) q.2⟩) (fun c q => l.xc _ q) q⟩
  refine stF hf.mo b P S q (fun d hd p o H1 Hf1 Hh1 t1 p1 hp s1 r1 => ?_) (fun c hc => hc)
  obtain ⟨hd1, hd2⟩ := hd
  have r1 := r1 hd1
  have nx := (p1.fresh hp).2.2
  have s2 := s1.addX (o := o) nx
  refine stE hg.mo b (p1.newX hp r1.noT r1.noB r1.noE) s2 hd2 (fun e he v H2 Hf2 Hh2 t2 p2 s3 rv => ?_) (fun c hc => hc.tr t1)
  have s4 := s3.take (i := i) upd_same (noC s1 nx) (r1.mono t2) (not_held s1 nx)
  exact ⟨_, _, rfl, he.2 _ _ Hf2 Hh2 _ (t1.trans t2) p2 (s4.put (rv he.1))⟩
theorem d_parOO (b : Bool) (i j : Nat) {x y : Str} {a c : Expr} {f g : WE} {px py pt : Pos} {kt k2 pt2} {pos : Pos} (hN : X.N.Nodup) (hf : FD X xw a f) (hg : FD X xw c g) (hc : X.calm = true := by rfl) (hi : X.N[i]? = some x := by rfl) (hj : X.N[j]? = some y := by rfl) (hij : i ≠ j := by decide)
    (hx : X.env.scope.names.lookup x = some .local := by rfl) (hy : X.env.scope.names.lookup y = some .local := by rfl) (hsa : starEach [a, c] X.env = (false, eval a X.env) :: starEach [c] X.env := by rfl) (hsb : starEach [c] X.env = (false, eval c X.env) :: starEach [] X.env := by rfl)
    (hw : swappedStores [.Tuple [.Name x px, .Name y py] kt pt] (.Tuple [a, c] k2 pt2) X.env = pure (some [x, y]) := by rfl)
    (hs : swapsWithSole [.Tuple [.Name x px, .Name y py] kt pt] (.Tuple [a, c] k2 pt2) pos.line X.env = pure false := by rfl) :
    SD X xw (.Assign [.Tuple [.Name x px, .Name y py] kt pt] (.Tuple [a, c] k2 pt2) pos) (parOOW b i j f g) := by
  refine ⟨PS.imp (ps_par hc hN hi hj hij hx hy (pa_cons hf.pe (pa_cons hg.pe pa_nil hsb) hsa) hw hs) fun Dn σ H ⟨HxC, Hf, Hh, Hx, ρ, P, S, q⟩ => ?_, fun ρ k1 k2 l q => hf.mo _ _ _ _ _ (fun d q => ⟨q.1, hg.mo _ _ _ _ _ (fun e q => ⟨q.1, l.nx _ q.2⟩) (fun c q => l.xc _ q) q.2⟩) (fun c q => l.xc _ q) q⟩
  refine stF hf.mo b P S q (fun d hd p o H1 Hf1 Hh1 t1 p1 hp s1 r1 => ?_) (fun c hc => hc)
  obtain ⟨hd1, hd2⟩ := hd
  have r1 := r1 hd1
  have nx := (p1.fresh hp).2.2
  have s2 := s1.addX (o := o) nx
  refine stF hg.mo b (p1.newX hp r1.noT r1.noB r1.noE) s2 hd2 (fun e he p' o' H2 Hf2 Hh2 t2 p2 hp2 s3 r2 => ?_) (fun c hc => hc.tr t1)
  have r2 := r2 he.1
  have s4 := s3.take (i := i) upd_same (noC s1 nx) (r1.mono t2) (not_held s1 nx)
  have s5 := s4.putOwn p2 hp2 (i := j) (r2)
  exact ⟨_, _, rfl, he.2 _ _ Hf2 Hh2 _ (t1.trans t2) (p2.newX hp2 r2.noT r2.noB r2.noE) s5⟩
end
end DL

set_option Elab.async false
set_option linter.all false
set_option maxRecDepth 100000
set_option maxHeartbeats 4000000
namespace DL
open PySem PySem.Spec PyProof.Rows L2
section
variable {X : Cx}
def rUpdD : V → List V → Hp → VK → Prop := fun x xs H Q => ∃ (a b : Addr) (kvs more : List (Key × V)), x = .ref a ∧ xs = [.ref b] ∧ a ≠ b ∧ H a = some (.dK kvs) ∧ H b = some (.dK more) ∧ kvs.length + more.length ≤ sizeLine ∧ Q .non (upd H a (.dK (mergeK kvs more)))
theorem mt_updD : MtR X "dict.update" rUpdD := by
  intro pins s σ H x xs v us Q I rx rxs h
  obtain ⟨a, b, kvs, more, rfl, rfl, hne, ea, eb, hz, q⟩ := h
  cases rx
  obtain ⟨u, rfl, ru⟩ := rxs.one
  cases ru
  obtain ⟨_, hd, vs, rel, dd⟩ := dk_of I.hok ea
  obtain ⟨_, hd2, ws, rel2, dd2⟩ := dk_of I.hok eb
  refine call_meetsIn PySem.F.slot_dict_update dd.typeIs PySem.F.entry_dict_update (PySem.F.args_dict_update_2 _ _) (meets_dict_update (mixKind X.prog X.w) a b hne hd2) ⟨vs, ws, dd, dd2, by rw [← rel.length, ← rel2.length]; exact hz, fun h' dd' _ hs => ?_⟩
  have he : ∃ q, h'.get? a = some q := let ⟨q, _, _, hq, _⟩ := dd'; ⟨q, hq⟩
  exact ⟨.non, _, d_write I (by rw [ea]; exact True.intro) hs he (dk_new (Nat.le_trans (length_mergeK more kvs) hz) hd (rel2.merge rel) dd'), rfl, q⟩
theorem op_inK (hu : X.A.units + 1 < cLine) : OpR X (compareOp .In) (fun x y H Q => ∃ a o, y = .ref a ∧ DGet H a x o ∧ Q (.bl o.isSome) H) := by
  intro pins s σ H x y v u Q I rx ry h
  obtain ⟨a, o, rfl, g, q⟩ := h
  cases ry
  exact d_in hu I g rx fun s' J => ⟨.bl o.isSome, H, J, rfl, q⟩
theorem op_notInK (hu : X.A.units + 1 < cLine) : OpR X (compareOp .NotIn) (fun x y H Q => ∃ a o, y = .ref a ∧ DGet H a x o ∧ Q (.bl (!o.isSome)) H) := by
  intro pins s σ H x y v u Q I rx ry h
  obtain ⟨a, o, rfl, g, q⟩ := h
  cases ry
  exact d_notIn hu I g rx fun s' J => ⟨.bl (!o.isSome), H, J, rfl, q⟩
end
variable [TabsC]
section
variable {X : Cx} {xw : XW}
/-- in, also of dicts with int and text keys -/
def inA (neg : Bool) : W2 := fun x y K => match y with
  | .list ds => (x.cm = true ∧ (D.list ds).cm = true) ∧ K (.bool (if neg then !(ds.any fun z => z.eqv x) else ds.any fun z => z.eqv x))
  | .tuple ds => (x.cm = true ∧ (D.tuple ds).cm = true) ∧ K (.bool (if neg then !(ds.any fun z => z.eqv x) else ds.any fun z => z.eqv x))
  | .dict false _ => ∃ kvs k, y = encK kvs ∧ x = D.ofKey k ∧ K (.bool (if neg then !(valD kvs k).isSome else (valD kvs k).isSome))
  | _ => False
theorem mono_inA {neg : Bool} : Mono2 (inA neg) := fun x y K1 K2 hk h => by
  unfold inA at h ⊢
  split at h
  · exact ⟨h.1, hk _ h.2⟩
  · exact ⟨h.1, hk _ h.2⟩
  · obtain ⟨a, b, c, d, e⟩ := h; exact ⟨a, b, c, d, hk _ e⟩
  · exact h.elim
theorem inD_go {K : PySem.W.Frag} {H Hf Hh : Hp} {v u : V} {kvs : List (Key × D)} {k : Key} (s : Sub Hf H) (rx : Rp K Hf Hh v (D.ofKey k)) (ry : Rp K Hf Hh u (encK kvs)) : ∃ a o, u = .ref a ∧ DGet H a v o ∧ o.isSome = (valD kvs k).isSome := by
  have := rx.ofKey
  subst this
  cases ry with | dK e z q =>
  obtain ⟨g1, g2⟩ := val_rel (k := k) (keysK z) (by rw [List.map_map] at q; exact q)
  refine ⟨_, _, rfl, DGet.k (s _ _ e), ?_⟩
  cases hv : valD kvs k with
  | none => rw [g2 hv]; rfl
  | some d => obtain ⟨w, hw, _⟩ := g1 d hv; rw [hw]; rfl
theorem od_inA (hu : X.A.units + 65 < cLine) : OpD X (compareOp .In) (inA false) := by
  refine ⟨OpR.imp (OpR.or (op_inT hu) (op_inK (by omega))) fun x y H Q ⟨Hf, Hh, Hx, dx, dy, P, rx, ry, h⟩ => ?_, mono_inA⟩
  unfold inA at h
  split at h
  · exact .inl (Rp.in_list (neg := false) P.sub rx ry h.1.1 h.1.2 (h.2.now P (.bool _)))
  · exact .inl (Rp.in_tup (neg := false) P.sub rx ry h.1.1 h.1.2 (h.2.now P (.bool _)))
  · obtain ⟨kvs, k, e1, e2, h⟩ := h
    subst e2
    rw [e1] at ry
    obtain ⟨a, o, rfl, g, e⟩ := inD_go P.sub rx ry
    refine .inr ⟨a, o, rfl, g, ?_⟩
    rw [e]
    exact h.now P (.bool _)
  · exact h.elim
theorem od_notinA (hu : X.A.units + 65 < cLine) : OpD X (compareOp .NotIn) (inA true) := by
  refine ⟨OpR.imp (OpR.or (op_notInT hu) (op_notInK (by omega))) fun x y H Q ⟨Hf, Hh, Hx, dx, dy, P, rx, ry, h⟩ => ?_, mono_inA⟩
  unfold inA at h
  split at h
  · exact .inl (Rp.in_list (neg := true) P.sub rx ry h.1.1 h.1.2 (h.2.now P (.bool _)))
  · exact .inl (Rp.in_tup (neg := true) P.sub rx ry h.1.1 h.1.2 (h.2.now P (.bool _)))
  · obtain ⟨kvs, k, e1, e2, h⟩ := h
    subst e2
    rw [e1] at ry
    obtain ⟨a, o, rfl, g, e⟩ := inD_go P.sub rx ry
    refine .inr ⟨a, o, rfl, g, ?_⟩
    rw [e]
    exact h.now P (.bool _)
  · exact h.elim
def loopD (ρ : Env') (T : Tgt) (tst : WT) (ke ve : WE) : List D → List (Key × D) → (List (Key × D) → Prop) → Prop
  | [], acc, K => K acc
  | d :: ds, acc, K => match T.bs d with
    | none => False
    | some bs => tst (setE ρ bs) (fun b => if b = true then ke (setE ρ bs) (fun y => ve (setE ρ bs) (fun z => ∃ k, y = D.ofKey k ∧ acc.length < 16777216 ∧ loopD ρ T tst ke ve ds (putD acc k z) K) (fun _ => False)) (fun _ => False) else loopD ρ T tst ke ve ds acc K) (fun _ => False)
theorem loopD_mono {ρ : Env'} {T : Tgt} {tst : WT} {ke ve : WE} (mt : MonoT tst) (mk : MonoE ke) (mv : MonoE ve) : ∀ (ds : List D) (acc : List (Key × D)) (K1 K2 : List (Key × D) → Prop), (∀ a, K1 a → K2 a) → loopD ρ T tst ke ve ds acc K1 → loopD ρ T tst ke ve ds acc K2
  | [], acc, K1, K2, hk, h => hk _ h
  | d :: ds, acc, K1, K2, hk, h => by
    rw [loopD] at h ⊢
    split at h
    · exact h.elim
    · refine mt _ _ _ _ _ (fun b q => ?_) (fun _ h => h) h
      cases b with
      | true => exact mk _ _ _ _ _ (fun y q => mv _ _ _ _ _ (fun z ⟨k, e, l, q⟩ => ⟨k, e, l, loopD_mono mt mk mv ds _ K1 K2 hk q⟩) (fun _ h => h) q) (fun _ h => h) q
      | false => exact loopD_mono mt mk mv ds _ K1 K2 hk q
def dcW (vs : List Nat) (T : Tgt) (src : WA) (tst : WT) (ke ve : WE) : WE := fun ρ K Xc => src ρ (fun ds => loopD (wipeD ρ vs) T tst ke ve ds [] (fun acc => K (encK acc))) Xc
theorem mono_dc {vs : List Nat} {T : Tgt} {src : WA} {tst : WT} {ke ve : WE} (ms : MonoA src) (mt : MonoT tst) (mk : MonoE ke) (mv : MonoE ve) : MonoE (dcW vs T src tst ke ve) := fun ρ K1 K2 X1 X2 hk hx h =>
  ms _ _ _ _ _ (fun ds q => loopD_mono mt mk mv _ _ _ _ (fun a q => hk _ q) q) hx h
/-- a heap less a new object -/
theorem less_new {H2 Hf2 Hh2 Hx : Hp} {Dp : Addr} {o : HO} (P2 : Pt H2 Hf2 Hh2 (upd Hx Dp o)) (nDx : Hx Dp = none) (Pn : ∀ a vs, Hx a ≠ some (.tup vs)) (Pb : ∀ a vs, Hx a ≠ some (.tbl vs)) (Pe : ∀ a φ, Hx a ≠ some (.ext φ)) :
    ∃ H' : Hp, upd H' Dp o = H2 ∧ Pt H' Hf2 Hh2 Hx ∧ H' Dp = none := by
  let H' : Hp := fun b => if b = Dp then none else H2 b
  have atN : ∀ b, b ≠ Dp → H' b = H2 b := fun b hb => by show (if b = Dp then none else H2 b) = _; rw [if_neg hb]
  have atD : H' Dp = none := by show (if Dp = Dp then none else H2 Dp) = none; rw [if_pos rfl]
  have e1 : H2 Dp = some o := (P2.x Dp _ upd_same).1
  have nf := (P2.x Dp _ upd_same).2
  refine ⟨H', ?_, ⟨fun b u q => ?_, fun b u q => ?_, fun b u q => ?_, fun b u q => ?_, fun b vs => ⟨(P2.nt b vs).1, Pn b vs⟩, fun b vs => ⟨(P2.nb b vs).1, Pb b vs⟩, P2.tb, Pe⟩, atD⟩
  · funext b
    by_cases hb : b = Dp
    · subst hb; rw [upd_same, e1]
    · rw [upd_ne hb, atN b hb]
  · have hb : b ≠ Dp := fun z => by subst z; rw [nf.1] at q; cases q
    obtain ⟨z1, z2, z3⟩ := P2.f b u q
    rw [upd_ne hb] at z3
    exact ⟨by rw [atN b hb]; exact z1, z2, z3⟩
  · have hb : b ≠ Dp := fun z => by subst z; rw [nf.2] at q; cases q
    obtain ⟨z1, z2, z3⟩ := P2.h b u q
    rw [upd_ne hb] at z3
    exact ⟨by rw [atN b hb]; exact z1, z2, z3⟩
  · have hb : b ≠ Dp := fun z => by subst z; rw [nDx] at q; cases q
    obtain ⟨z1, z2, z3⟩ := P2.x b u (by rw [upd_ne hb]; exact q)
    exact ⟨by rw [atN b hb]; exact z1, z2, z3⟩
  · by_cases hb : b = Dp
    · subst hb; rw [atD] at q; cases q
    · rw [atN b hb] at q
      have := P2.c b u q
      rw [upd_ne hb] at this
      exact this
theorem dc_imp {vs : List Nat} {T : Tgt} {src : WA} {tst : WT} {ke ve : WE} {g : TG} {K : PySem.W.Frag} {xw : XW} (ms : MonoA src) (mt : MonoT tst) (mk : MonoE ke) (mv : MonoE ve) (hT : ∀ i ∈ T.slots, i ∈ vs)
    (gst : ∀ v d bs σ (H Hf Hh : Hp) (Q : St → Hp → Prop), Sub Hf H → Rp K Hf Hh v d → T.bs d = some bs → (∀ us, RpB K Hf Hh us bs → Q (setV σ us) H) → g v σ H Q)
    (σ : St) (H : Hp) (Q : VK) (h : LF K xw (dcW vs T src tst ke ve) σ H Q) : tDc (LI K xw src) g (LT K noX tst) (LE K noX ke) (LE K noX ve) vs σ H Q := by
  obtain ⟨Hf, Hh, Hx, ρ, P, S, h⟩ := h
  refine ⟨Hf, Hh, Hx, ρ, P, S, ms _ _ _ _ _ (fun ds hd J H1 Hf1 Hh1 T1 P1 wk hz Dp hD => ?_) (fun c hc => hc) h⟩
  have nDx : Hx Dp = none := (P1.fresh hD).2.2
  have Sw : Sl K Hf1 Hh1 (L2.wipe σ vs) (wipeD ρ vs) := (S.mono T1).wipe vs
  let W : Nat → Nat → Hp → Prop := fun i m H => m = ds.length - i ∧ i ≤ ds.length ∧ ∃ Hf2 Hh2 ws acc, Tr Hf1 Hh1 Hf2 Hh2 ∧ Pt H Hf2 Hh2 (upd Hx Dp (.dK ws)) ∧ acc.map (·.1) = ws.map (·.1) ∧ RpAll K Hf2 Hh2 (ws.map (·.2)) (acc.map (·.2)) ∧
    loopD (wipeD ρ vs) T tst ke ve (ds.drop i) acc (fun acc => Bf K Hf Hh Hx Q (encK acc))
  refine ⟨W, ⟨ds.length, by simp, Nat.zero_le _, Hf1, Hh1, [], [], Tr.refl _ _, P1.newX hD, rfl, .nil, by simpa using hd⟩, ?_⟩
  rintro i m H2 ⟨rfl, hi, Hf2, Hh2, ws, acc, T2, P2, K2, R2, lc⟩
  obtain ⟨w1, w2⟩ := wk i H2 Hf2 Hh2 _ T2 P2
  by_cases hlt : i < ds.length
  · obtain ⟨hgo, hy⟩ := w1 hlt
    refine .inr ⟨hgo, fun H' => ∃ m', m' < ds.length - i ∧ W (i + 1) m' H', fun H' h => h, fun x H3 yl => ?_⟩
    obtain ⟨Hf3, d, T3, P3, ed, R3⟩ := hy x H3 yl
    rw [drop_lt ed, loopD] at lc
    split at lc
    · exact lc.elim
    · rename_i bs eb
      refine gst x d bs _ H3 Hf3 Hh2 _ P3.sub R3 eb fun us hu => ?_
      have hus : ∀ u ∈ us, u.1 ∈ vs := fun u hu' => by
        have : u.1 ∈ bs.map (·.1) := by rw [← RpB.fst hu]; exact List.mem_map_of_mem hu'
        obtain ⟨b, hb, e⟩ := List.mem_map.mp this
        exact e ▸ hT _ (bs_slots T d bs eb b hb)
      have S3 : Sl K Hf3 Hh2 (setV (L2.wipe σ vs) us) (setE (wipeD ρ vs) bs) := (Sw.mono (T2.trans T3)).sets hu
      refine ⟨wipe_setV hus, LT.at mt P3 S3 lc (fun b hb H4 Hf4 Hh4 T4 P4 => ?_) (fun c hc => hc.elim)⟩
      cases b with
      | true =>
        refine iteT (LE.at mk P4 (S3.mono T4) hb (fun y hy v5 H5 Hf5 Hh5 T5 P5 R5 => ?_) (fun c hc => hc.elim))
        refine LE.at mv P5 (S3.mono (T4.trans T5)) hy (fun z hz2 v6 H6 Hf6 Hh6 T6 P6 R6 => ?_) (fun c hc => hc.elim)
        obtain ⟨k, rfl, hlen, hz2⟩ := hz2
        have ek := R5.ofKey
        subst ek
        have T26 : Tr Hf2 Hh2 Hf6 Hh6 := T3.trans (T4.trans (T5.trans T6))
        have eD : H6 Dp = some (.dK ws) := (P6.x Dp _ upd_same).1
        have lw : ws.length = acc.length := by have := congrArg List.length K2; simpa using this.symm
        obtain ⟨z1, z2⟩ := put_rel (k := k) K2 (R2.mono T26) R6
        refine ⟨ws, k, rfl, eD, by rw [lw, sizeLine_eq]; exact hlen, ds.length - (i + 1), by omega, rfl, hlt, Hf6, Hh6, putK ws k v6, putD acc k z, T2.trans T26, ?_, z1, z2, hz2⟩
        have := P6.setX (o' := .dK (putK ws k v6)) upd_same
        rw [upd_upd] at this
        exact this
      | false =>
        refine iteF ⟨ds.length - (i + 1), by omega, rfl, hlt, Hf4, Hh4, ws, acc, T2.trans (T3.trans T4), P4, K2, R2.mono (T3.trans T4), hb⟩
  · have e : i = ds.length := by omega
    subst e
    refine .inl ⟨w2 (Nat.le_refl _), ?_⟩
    rw [List.drop_length, loopD] at lc
    obtain ⟨H', e2, P', n'⟩ := less_new P2 nDx (fun a vs => (P1.nt a vs).2) (fun a vs => (P1.nb a vs).2) P1.nx
    have := lc Dp (.dK ws) H' Hf2 Hh2 (T1.trans T2) P' n' ⟨ws, rfl, ?_, ?_⟩
    · rw [e2] at this
      exact this
    · have := congrArg (List.map D.ofKey) K2
      simpa [List.map_map, Function.comp_def] using this
    · simpa [List.map_map, Function.comp_def] using R2
theorem fd_dc {kx vx tg iter : Expr} {ifs : List Expr} {scope : Scope} {own : List (Str × Nat)} {pos : Pos} {T : Tgt} {g : TG} {src : WA} {tst : WT} {fk fv : WE} (hc : X.calm = true) (hN : X.N.Nodup) (hi : ID X xw tg iter src) (ok : BlkOk X.N X.env.scope scope own)
    (hT : ∀ i ∈ T.slots, i ∈ own.map (·.2))
    (hg : ∀ (s : Shared) (H : Hp) (C : Addr) (cl : List (Str × Addr)) (fp : List Addr), GD (X.blk s H scope (compEnvC scope cl C X.env) fp) tg T g) (ht : ∀ (s : Shared) (H : Hp) (C : Addr) (cl : List (Str × Addr)) (fp : List Addr), TsD (X.blk s H scope (compEnvC scope cl C X.env) fp) noX ifs tst)
    (hk : ∀ (s : Shared) (H : Hp) (C : Addr) (cl : List (Str × Addr)) (fp : List Addr), ED (X.blk s H scope (compEnvC scope cl C X.env) fp) noX kx fk)
    (hv : ∀ (s : Shared) (H : Hp) (C : Addr) (cl : List (Str × Addr)) (fp : List Addr), ED (X.blk s H scope (compEnvC scope cl C X.env) fp) noX vx fv) (hs : ∀ x, foldedSetIterable iter X.env x = pure x := by intro _; rfl) :
    FD X xw (.DictComp kx vx [⟨tg, iter, ifs, 0⟩] scope pos) (dcW (own.map (·.2)) T src tst fk fv) := by
  have m1 := (ht X.s_0 (fun _ => none) 0 [] []).mo
  have m2 := (hk X.s_0 (fun _ => none) 0 [] []).mo
  have m3 := (hv X.s_0 (fun _ => none) 0 [] []).mo
  exact ⟨PE.imp (pe_dc (tt := LT X.K noX tst) (tk := LE X.K noX fk) (tv := LE X.K noX fv) hc hN hi.pi ok (fun s H C cl fp => (hg s H C cl fp).pg) (fun s H C cl fp => (ht s H C cl fp).pt) (fun s H C cl fp => (hk s H C cl fp).pe) (fun s H C cl fp => (hv s H C cl fp).pe) hs)
    fun σ H Q h => dc_imp hi.mo m1 m2 m3 hT (hg X.s_0 (fun _ => none) 0 [] []).st σ H Q h, mono_dc hi.mo m1 m2 m3⟩
def mergeD (kvs more : List (Key × D)) : List (Key × D) := more.foldl (fun a p => putD a p.1 p.2) kvs
theorem merge_rel {K : PySem.W.Frag} {Hf Hh : Hp} : ∀ {more : List (Key × D)} {ms : List (Key × V)} {kvs : List (Key × D)} {ws : List (Key × V)}, more.map (·.1) = ms.map (·.1) → RpAll K Hf Hh (ms.map (·.2)) (more.map (·.2)) → kvs.map (·.1) = ws.map (·.1) → RpAll K Hf Hh (ws.map (·.2)) (kvs.map (·.2)) →
    (mergeD kvs more).map (·.1) = (mergeK ws ms).map (·.1) ∧ RpAll K Hf Hh ((mergeK ws ms).map (·.2)) ((mergeD kvs more).map (·.2))
  | [], [], _, _, _, _, h, r => ⟨h, r⟩
  | p :: more, q :: ms, kvs, ws, h1, r1, h, r => by
    simp only [List.map_cons, List.cons.injEq] at h1 r1
    cases r1 with | cons a b =>
    obtain ⟨z1, z2⟩ := put_rel (k := q.1) h r a
    have := merge_rel (kvs := putD kvs q.1 p.2) (ws := putK ws q.1 q.2) h1.2 b z1 z2
    unfold mergeD mergeK at this ⊢
    rw [List.foldl_cons, List.foldl_cons, h1.1]
    exact this
  | [], _ :: _, _, _, h1, _, _, _ => by simp at h1
  | _ :: _, [], _, _, h1, _, _, _ => by simp at h1
def updW (b : Bool) (i : Nat) (f : WE) : WS := fun ρ k => ∃ kvs, ρ[i]? = some (some (.own (encK kvs))) ∧ f (view b ρ) (fun d => ∃ more, d = encK more ∧ (b = true → d.flatIn = true) ∧ kvs.length + more.length ≤ 16777216 ∧ k.nx (ρ.set i (some (.own (encK (mergeD kvs more)))))) k.xc
theorem sd_upd {i : Nat} {x : Str} {e : Expr} {f : WE} {np apos cpos pos : Pos} (b : Bool) (h : FD X xw e f) (hN : X.N[i]? = some x := by rfl) (hv : Vis X.env.scope x := by first | exact Or.inl rfl | exact Or.inr (Or.inl rfl) | exact Or.inr (Or.inr rfl))
    (hd : (x == ("__debug__" : Str)) = false := by decide) (hcd : (x == ("__classdict__" : Str)) = false := by decide)
    (hp : ∀ t, PE X e t → PS X (.Expr (.Call (.Attribute (.Name x np) (Str.ofString "update") apos) [e] [] cpos) pos) (tDrop (tBM X.K "dict" rUpdD (tVar i) (tCons t tNil))) := by
      exact fun t ht => ps_expr (pe_bm PySem.F.plainAttrs_dict PySem.F.slot_dict_update PySem.F.type_dict_update mt_updD (pv _) (pa_cons ht pa_nil))) :
    SD X xw (.Expr (.Call (.Attribute (.Name x np) (Str.ofString "update") apos) [e] [] cpos) pos) (updW b i f) := by
  refine ⟨PS.imp (hp _ h.pe) fun Dn σ H ⟨HxC, Hf, Hh, Hx, ρ, P, S, kvs, eo, q⟩ => ?_, fun ρ k1 k2 l ⟨kvs, e, q⟩ => ⟨kvs, e, h.mo _ _ _ _ _ (fun d ⟨m, a, b, c, q⟩ => ⟨m, a, b, c, l.nx _ q⟩) (fun c q => l.xc _ q) q⟩⟩
  obtain ⟨a, o, h1, h2, h3, r⟩ := S.own i _ eo
  obtain ⟨ws, rfl, hk, r⟩ := (r : ∃ ws, o = .dK ws ∧ _)
  have hk := keysK hk
  have r : RpAll X.K Hf Hh (ws.map (·.2)) (kvs.map (·.2)) := by rw [List.map_map] at r; exact r
  have lw : ws.length = kvs.length := by have := congrArg List.length hk; simpa using this.symm
  refine ⟨.ref a, h1, .inr (.inr (.inl ⟨rfl, .inl ⟨_, (P.x a _ h2).1⟩⟩)), ?_⟩
  refine stF h.mo b P S q (fun d hd p o H1 Hf1 Hh1 t1 p1 hp s1 r1 => ?_) (fun c hc => hc)
  obtain ⟨more, rfl, hfl, hz, hd⟩ := hd
  obtain ⟨ms, rfl, hk2, r2⟩ := (r1 hfl : ∃ ws, o = .dK ws ∧ _)
  have hk2 := keysK hk2
  have r2 : RpAll X.K Hf1 Hh1 (ms.map (·.2)) (more.map (·.2)) := by rw [List.map_map] at r2; exact r2
  have lm : ms.length = more.length := by have := congrArg List.length hk2; simpa using this.symm
  have hap : a ≠ p := fun z => by subst z; rw [(p1.x a _ h2).1] at hp; cases hp
  have e1 : (upd H1 p (.dK ms)) a = some (.dK ws) := by rw [upd_ne hap]; exact (p1.x a _ h2).1
  refine ⟨a, p, ws, ms, rfl, rfl, hap, e1, upd_same, by rw [lw, lm, sizeLine_eq]; exact hz, ?_⟩
  have p2 := p1.newF (o := .dK ms) hp
  have t2 := t1.trans (tr_new (Hh := Hh1) (o := .dK ms) (p1.fresh hp).1)
  obtain ⟨z1, z2⟩ := merge_rel hk2 (r2.mono (tr_new (o := .dK ms) (p1.fresh hp).1)) hk (r.mono t2)
  refine hd _ _ _ Hh1 _ t2 (p2.setX (o' := .dK (mergeK ws ms)) h2) ((s1.mono (tr_new (p1.fresh hp).1)).mut eo h1 h3 ⟨_, rfl, ?_, ?_⟩)
  · have := congrArg (List.map D.ofKey) z1
    simpa [List.map_map, Function.comp_def] using this
  · simpa [List.map_map, Function.comp_def] using z2
end
end DL

set_option Elab.async false
set_option linter.all false
set_option maxRecDepth 100000
set_option maxHeartbeats 4000000
namespace DL
open PySem PySem.Spec PyProof.Rows L2
/-- the facts of the classes that such a def asks for -/
structure ExcM (K : PySem.W.Frag) (mg : Str → Option Value) (CA : String → Addr) (pn : String) (names known : List String) : Prop where
  pe : mg (Str.ofString pn) = some (.ref (CA pn))
  nm : ∀ n ∈ names, mg (Str.ofString n) = some (.ref (CA n))
  exp : ∀ c ∈ known, PySem.W.exmOne K (.ref (CA c)) (.ref (CA pn)) = some true
  exm : ∀ c ∈ known, ∀ n ∈ names, PySem.W.exmOne K (.ref (CA c)) (.ref (CA n)) = some (decide (n = c))
/-- the clauses, by what each does with its word -/
def hdL (CA : String → Addr) (m : Nat) (pn : String) (t : Str → TS) : List String → List Str → List (Value × (Addr → Value → Option Addr → TS))
  | n :: ns, w :: ws => (.ref (CA n), fun _ _ _ D σ H => σ.length = m → t w D σ H) :: hdL CA m pn t ns ws
  | _, _ => [(.ref (CA pn), fun _ _ _ D σ H => σ.length = m → t "other" D σ H)]
theorem pss_len {Y : Cx} {ss : List Stmt} {t : TS} {m : Nat} (hl : Y.N.length = m) (h : PSs Y ss t) : PSs Y ss (fun D σ H => σ.length = m → t D σ H) :=
  ⟨fun pins s σ H D I z => h.run pins s σ H D I (z (I.len.trans hl))⟩
theorem many_go {K : PySem.W.Frag} {CA : String → Addr} {m : Nat} {pn c : String} {t : Str → TS} {Wout : WX} {D : Ends} {d : Option Addr} {σ : L2.St} {H : Hp} (hp : PySem.W.exmOne K (.ref (CA c)) (.ref (CA pn)) = some true) :
    ∀ (ns : List String) (ws : List Str), ns.length = ws.length → (∀ n ∈ ns, PySem.W.exmOne K (.ref (CA c)) (.ref (CA n)) = some (decide (n = c))) → (σ.length = m → t (tellOf ns ws c) D σ H) → wMany K Wout D (hdL CA m pn t ns ws) (.ref (CA c)) d σ H
  | [], [], _, _, q => ⟨true, hp, fun _ a _ => q, fun z => by cases z⟩
  | n :: ns, w :: ws, hl, hn, q => by
    refine ⟨_, hn n (List.mem_cons_self ..), fun z a _ => ?_, fun z => many_go hp ns ws (by simpa using hl) (fun n hn' => hn n (List.mem_cons_of_mem _ hn')) ?_⟩
    · have e : n = c := of_decide_eq_true z
      rw [tellOf, if_pos e] at q
      exact q
    · have e : ¬ n = c := of_decide_eq_false z
      rw [tellOf, if_neg e] at q
      exact q
  | [], _ :: _, hl, _, _ => by simp at hl
  | _ :: _, [], hl, _, _ => by simp at hl
end DL

set_option Elab.async false
set_option linter.all false
set_option maxRecDepth 100000
set_option maxHeartbeats 4000000
namespace DL
open PySem PySem.Spec PyProof.Rows L2
theorem enum_new1 {v : Value} {o : Obj} {H : Heap → Prop} (B : Begins v o H) :
    Meets (Builtin.«enumerate.__new__» ⟨[.type "enumerate", v], []⟩) (fun _ R s => H s.heap ∧
      R (.ok (.ret (.ref (s.heap.push o).objs.size))) { s with heap := (s.heap.push o).push { cls := .type "enumerate", data := .fields #[.none, .bool false, .ref s.heap.objs.size, rawInt 0, .none, .none] } }) :=
  .of_wp fun prog w A R s h => by
    obtain ⟨hp, g, d, tk, os⟩ := s
    obtain ⟨h1, h⟩ := h
    have hsub := PySem.sub_enumerate
    have q1 : ∀ {A' : Around} {E : Value → Shared → Prop} {Q : Value → Shared → Prop}, Q (.ref hp.objs.size) ⟨hp.push o, g, d, tk, os⟩ → wpAny (model prog w) A' (pyIter v) Q E ⟨hp, g, d, tk, os⟩ := fun q => B.iter prog w _ _ ⟨hp, g, d, tk, os⟩ _ h1 q
    wp_walk using q1
    refine wpAny_stack_any fun st => wpAny_pure ?_
    split
    · rename_i c _ _ _ _ _
      cases (c == Value.type "enumerate") <;> (wp_walk using q1; exact ⟨_, rfl, h⟩)
    · wp_walk using q1
      exact ⟨_, rfl, h⟩
section
variable {prog : Program} {w : World} {A : Around} {E : Value → Shared → Prop} {s : Shared}
theorem enum_call1 {v : Value} {o : Obj} {H : Heap → Prop} {Q : Value → Shared → Prop} (B : Begins v o H) (h1 : H s.heap)
    (h : ∀ h', IsEnum h' (s.heap.objs.size + 1) s.heap.objs.size 0 .none → h'.get? s.heap.objs.size = some o → (∀ b o, s.heap.get? b = some o → h'.get? b = some o) → Q (.ref (s.heap.objs.size + 1)) { s with heap := h' }) :
    wpAny (model prog w) A (call (.type "enumerate") [v]) Q E s := by
  refine callType_new PySem.F.called_enumerate (by decide) (PySem.F.typeCall_enumerate_1 _) (PySem.F.newCall_enumerate_1 _) (fun obj => PySem.F.args_object_init_2 obj _) PySem.F.entry_enumerate_new (enum_new1 B) ⟨h1, ?_⟩
  have hz : (s.heap.push o).objs.size = s.heap.objs.size + 1 := Heap.size_push ..
  show _ ∧ _
  rw [hz]
  have he : IsEnum ((s.heap.push o).push { cls := .type "enumerate", data := .fields #[.none, .bool false, .ref s.heap.objs.size, rawInt 0, .none, .none] }) (s.heap.objs.size + 1) s.heap.objs.size 0 .none := by
    have q := Heap.get?_push_size (s.heap.push o) (o := { cls := .type "enumerate", data := .fields #[.none, .bool false, .ref s.heap.objs.size, rawInt 0, .none, .none] }) rfl
    rw [hz] at q
    exact q
  exact ⟨⟨_, he, rfl⟩, h _ he (Heap.get?_push_of_some _ (Heap.get?_push_size _ B.free)) fun b o x => Heap.get?_push_of_some _ (Heap.get?_push_of_some _ x)⟩
end
/-- the tuple at a, each item in a new pair -/
def Itet (K : PySem.W.Frag) (a : Addr) : It :=
  ⟨fun i H => ∃ (xs : List V) (x : V), SqT K H a xs ∧ xs[i]? = some x, fun i H v H' => ∃ T x, v = .ref T ∧ H T = none ∧ H' = upd H T (.tup [.int (i : Nat), x]) ∧ ∀ xs, SqT K H a xs → xs[i]? = some x, fun i H => ∃ xs : List V, SqT K H a xs ∧ xs.length ≤ i⟩
theorem turn_enumT {P : Program} {w : World} {K : PySem.W.Frag} {elts : List Expr} {kk : Nat} {tpos : Pos} (a e it : Addr) (hne : e ≠ it) (hai : a ≠ it) (hae : e ≠ a) :
    Turn P w K (.Tuple elts kk tpos) (Itet K a) [e, it] e (fun i h => (∃ old, IsEnum h e it ((i : Nat) : Int) old) ∧ h.IsTupleIter it a i) where
  mem := by simp
  obj := fun i h st b hb => by
    obtain ⟨⟨old, he⟩, ⟨o, ho, hc, hd⟩⟩ := st
    have hb' : b = e ∨ b = it := by simpa using hb
    rcases hb' with rfl | rfl
    · exact ⟨_, he, fun v q => nomatch q⟩
    · exact ⟨o, ho, fun v q => by rw [hd] at q; cases q⟩
  keep := fun i h h' st k => let ⟨⟨old, he⟩, hi⟩ := st; ⟨⟨old, k e (by simp) _ he⟩, hi.at fun o q => k it (by simp) o q⟩
  item := by
    intro X hP hw hK hc i pins s σ H E I hf st hg
    subst hP hw hK
    obtain ⟨⟨old, he⟩, hit⟩ := st
    obtain ⟨xs, x, hq, hx⟩ := hg
    obtain ⟨its, rv, p, hz⟩ := I.tuple hq
    obtain ⟨u, hu, ru⟩ := rv.get hx
    have hu' : its.toArray[i]? = some u := by simpa using hu
    have hlt : i < its.toArray.size := by
      rcases Nat.lt_or_ge i its.toArray.size with q | q
      · exact q
      · rw [Array.getElem?_eq_none q] at hu'; cases hu'
    have Dr := Draws.tuple (prog := X.prog) (w := X.w) (A := X.A.in1) (I.ok.hd hc) it a hai its.toArray
    have hel : e < s.heap.objs.size := Heap.lt_size he
    have hil : it < s.heap.objs.size := by obtain ⟨_, q, _⟩ := hit; exact Heap.lt_size q
    refine wpAny_pyNext_enum_itemD Dr he ⟨hit, show s.heap.IsTuple a its.toArray from p⟩ hlt hne (by simp [hne, hae]) fun x' h' tk hP ho hst hT hsz hk => ?_
    have hxu : x' = u := by rw [hu'] at hP; exact (Option.some.inj hP).symm
    subst hxu
    refine ⟨_, rfl, wpAny_letOwnedTupleGo_enum (s := { s with heap := h', toks := tk + 1 }) ho fun h'' he' sb => ?_⟩
    have hT2 : h''.get? s.heap.objs.size = some { cls := .type "tuple", data := .seq #[.int i tk, x'] } := (sb.2 _ (Nat.ne_of_gt hel)).trans hT
    have new : ObjOk X.prog X.w (upd H s.heap.objs.size (.tup [.int (i : Nat), x])) h'' s.heap.objs.size (.tup [.int (i : Nat), x]) := ⟨(by show 2 ≤ sizeLine; rw [sizeLine_eq]; decide), [.int i tk, x'], .cons ⟨_, rfl⟩ (.cons ru .nil), ⟨_, hT2, rfl, _, rfl⟩⟩
    have I1 : Inv X pins σ (upd H s.heap.objs.size (.tup [.int (i : Nat), x])) { s with heap := h'', toks := tk + 1 } :=
      I.turnedNew (ch := [e, it]) (fun b ob hb q => (sb.2 b (fun z => hb (by simp [z]))).trans (hk b ob (fun z => hb (by simp [z])) (fun z => hb (by simp [z])) q)) hf (Nat.le_refl _) new
    refine ⟨.ref s.heap.objs.size, _, I1, rfl, ⟨_, x, rfl, I.hok.fresh (Nat.le_refl _), rfl, fun ys hy => ?_⟩, ⟨⟨x', ?_⟩, hst.1.at fun o q => (sb.2 it (Ne.symm hne)).trans q⟩, fun b hb => ?_⟩
    · rw [I.tuple_inj hy hq]; exact hx
    · have e1 : ((i + 1 : Nat) : Int) = (i : Int) + 1 := by omega
      rw [e1]; exact he'
    · have hb' : b < s.heap.objs.size := by
        have hb' : b = e ∨ b = it := by simpa using hb
        rcases hb' with rfl | rfl
        · exact hel
        · exact hil
      rw [upd_ne (Nat.ne_of_lt hb')]
      exact (hf b hb).1
  done := by
    intro X hP hw hK hc i pins s σ H E I hf st hg
    subst hP hw hK
    obtain ⟨⟨old, he⟩, hit⟩ := st
    obtain ⟨xs, hq, hx⟩ := hg
    obtain ⟨its, rv, p, hz⟩ := I.tuple hq
    obtain ⟨f0, f1, f2, f3, f4, f5⟩ := hf it (by simp)
    have hl := rv.length
    unfold pyNext
    have hT : s.TypeIs (.ref e) "enumerate" := ⟨_, he, rfl⟩
    refine wpAny_bind (wpAny_attempt (wpAny_callSpecial?_slot (name := Str.ofString "__next__") hT PySem.F.slot_enumerate_next (wpAny_call_entry PySem.F.slot_enumerate_next hT PySem.F.entry_enumerate_next ?_ (PySem.F.args_enumerate_next_1 _))))
    show wpAny _ _ (field (.ref e) 2 >>= _) _ _ _
    refine wpAny_bind (wpAny_field he rfl (x := .ref it) rfl (wpAny_bind (wpAny_nextOf_tuple_end (A := X.A.in1) (I.ok.hd hc) hit (show s.heap.IsTuple a its.toArray from p) (by simp; omega) fun h' x he' hx' => ?_)))
    obtain ⟨o, ho, hc'⟩ := hx'
    exact wpAny_bind (wpAny_isInstance (T := "StopIteration") (b := true) ⟨o, ho, hc'⟩ isSubtype_stop (wpAny_pure ⟨rfl, I.turned (t' := s.toks) (fun b o hb q => he' b o hb q) f0 f1 f3 f4 f5⟩))
  self := fun A i s Q E st h => let ⟨⟨_, he⟩, _⟩ := st; wpAny_pyIter_enum he h
def iEnumA (K : PySem.W.Frag) (ta : TA) : TI := fun σ H R => ta σ H fun vs H1 => ∃ a xs, vs = [.ref a] ∧ ((SqL K H1 a xs ∧ R (Ite K a) H1) ∨ (SqT K H1 a xs ∧ R (Itet K a) H1))
theorem pi_enumA {X : Cx} {e : Expr} {ta : TA} {p pos tpos : Pos} {elts : List Expr} {kk : Nat} (hg : Gl X "enumerate") (hm : X.mg "enumerate" = none) (ha : PA X [e] ta) (hs : starEach [e] X.env = [(false, eval e X.env)] := by rfl) :
    PI X (.Tuple elts kk tpos) (.Call (.Name "enumerate" p) [e] [] pos) (iEnumA X.K ta) := by
  refine ⟨fun pins s σ H R I h => Call_ (ld_blt I hg hm PyProof.Rows.boot_enumerate (PyProof.Rows.callWith_type1 (thn (ha.run pos pins s σ H _ I h) fun us s1 ⟨vs, H1, I1, r1, a, xs, ex, q1⟩ => ?_) hs rfl))⟩
  subst ex
  obtain ⟨u, rfl, ru⟩ := r1.one
  cases ru
  have fresh : ∀ c, c ∈ [s1.heap.objs.size + 1, s1.heap.objs.size] → FpOk X pins H1 c := fun c hc => by
    have hc' : c = s1.heap.objs.size + 1 ∨ c = s1.heap.objs.size := by simpa using hc
    have hle : s1.heap.objs.size ≤ c := by rcases hc' with rfl | rfl <;> omega
    exact I1.fpOk hle (I1.hok.fresh hle)
  rcases q1 with ⟨hq, q⟩ | ⟨hq, q⟩
  · obtain ⟨its, rv, p', hz⟩ := I1.list hq
    refine enum_call1 (begins_list a its.toArray) p'.isList fun h' he hit hk => wpAny_pyIter_enum he ?_
    exact ⟨s1.heap.objs.size + 1, _, _, _, H1, rfl, I1.kept (t' := s1.toks) hk, turn_enum a (s1.heap.objs.size + 1) s1.heap.objs.size, ⟨⟨.none, he⟩, ⟨_, hit, rfl, rfl⟩, Nat.succ_ne_self _⟩, fresh, q⟩
  · obtain ⟨its, rv, p', hz⟩ := I1.tuple hq
    have hla : a < s1.heap.objs.size := by obtain ⟨o, ho, _⟩ := id p'; exact Heap.lt_size ho
    refine enum_call1 (begins_tuple a its.toArray) (show s1.heap.IsTuple a its.toArray from p') fun h' he hit hk => wpAny_pyIter_enum he ?_
    exact ⟨s1.heap.objs.size + 1, _, _, _, H1, rfl, I1.kept (t' := s1.toks) hk, turn_enumT a (s1.heap.objs.size + 1) s1.heap.objs.size (Nat.succ_ne_self _) (Nat.ne_of_lt hla) (Nat.ne_of_gt (Nat.lt_succ_of_lt hla)), ⟨⟨.none, he⟩, ⟨_, hit, rfl, rfl⟩⟩, fresh, q⟩
variable [TabsC]
section
variable {X : Cx} {xw : XW}
def enumD (xs : List D) : List D := xs.zipIdx.map fun p => .lt [.int (p.2 : Nat), p.1]
theorem enumD_get {xs : List D} {i : Nat} {d : D} (h : xs[i]? = some d) : (enumD xs)[i]? = some (.lt [.int (i : Nat), d]) := by
  unfold enumD
  rw [List.getElem?_map, List.getElem?_zipIdx, h]
  simp
theorem enumD_length (xs : List D) : (enumD xs).length = xs.length := by simp [enumD]
theorem enum_item {K : PySem.W.Frag} {Hf Hh Hx H : Hp} {vs : List V} {ds : List D} {i : Nat} {x : V} {T : Addr} (r : RpAll K Hf Hh vs ds) (hx : vs[i]? = some x) (P : Pt H Hf Hh Hx) (hT : H T = none) :
    ∃ Hf3 d, Tr Hf Hh Hf3 Hh ∧ Pt (upd H T (.tup [.int (i : Nat), x])) Hf3 Hh Hx ∧ (enumD ds)[i]? = some d ∧ Rp K Hf3 Hh (.ref T) d := by
  obtain ⟨d, hd, rd⟩ := r.getV hx
  have t := tr_new (Hh := Hh) (o := HO.tup [.int (i : Nat), x]) (P.fresh hT).1
  exact ⟨_, _, t, P.newF hT, enumD_get hd, .lt (.inl (.inl upd_same)) two_le (.cons (.int _) (.cons (rd.mono t) .nil))⟩
theorem walks_enumL {K : PySem.W.Frag} {Hf Hh : Hp} {a : Addr} {vs : List V} {ds : List D} (e : Hf a = some (.lst vs)) (r : RpAll K Hf Hh vs ds) : Walks K Hf Hh (Ite K a) (enumD ds) := fun i H' Hf' Hh' Hx' t P => by
  have e1 : H' a = some (.lst vs) := P.sub _ _ (t.s _ _ e)
  have l1 := r.length
  rw [enumD_length]
  refine ⟨fun hi => ⟨⟨vs, vs[i]'(by omega), SqL.of e1, by simp⟩, fun x H3 y => ?_⟩, fun hi => ⟨vs, SqL.of e1, by omega⟩⟩
  obtain ⟨T, x1, rfl, hT, rfl, y1⟩ := y
  exact enum_item (r.mono t) (y1 _ (SqL.of e1)) P hT
theorem walks_enumT {K : PySem.W.Frag} {Hf Hh : Hp} {a : Addr} {vs : List V} {ds : List D} (e : SqT K Hf a vs) (r : RpAll K Hf Hh vs ds) : Walks K Hf Hh (Itet K a) (enumD ds) := fun i H' Hf' Hh' Hx' t P => by
  have e1 : SqT K H' a vs := SqT.sub (SqT.sub e t.s) P.sub
  have l1 := r.length
  rw [enumD_length]
  refine ⟨fun hi => ⟨⟨vs, vs[i]'(by omega), e1, by simp⟩, fun x H3 y => ?_⟩, fun hi => ⟨vs, e1, by omega⟩⟩
  obtain ⟨T, x1, rfl, hT, rfl, y1⟩ := y
  exact enum_item (r.mono t) (y1 _ e1) P hT
def enumA (f : WA) : WA := fun ρ K Xc => f ρ (fun ds => match ds with
  | [.list xs] => K (enumD xs)
  | [.tuple xs] => K (enumD xs)
  | _ => False) Xc
theorem id_enum {e : Expr} {f : WA} {p pos tpos : Pos} {elts : List Expr} {kk : Nat} (hg : Gl X "enumerate") (hm : X.mg "enumerate" = none) (ha : AD X xw [e] f) (hs : starEach [e] X.env = [(false, eval e X.env)] := by rfl) :
    ID X xw (.Tuple elts kk tpos) (.Call (.Name "enumerate" p) [e] [] pos) (enumA f) := by
  refine ⟨PI.imp (pi_enumA hg hm ha.pa hs) fun σ H R ⟨Hf, Hh, Hx, ρ, P, S, q⟩ => ?_, fun ρ K1 K2 X1 X2 hk hx q => ha.mo _ _ _ _ _ (fun d q => ?_) hx q⟩
  · refine LA.at ha.mo P S q (fun ds hd vs H' Hf' Hh' T' P' R' => ?_) (fun c hc => hc)
    split at hd
    · obtain ⟨v, rfl, r⟩ := R'.one
      cases r with | list e1 z1 r1 =>
      exact ⟨_, _, rfl, .inl ⟨SqL.up e1 P'.sub, hd _ H' Hf' Hh' T' P' (walks_enumL e1 r1) (by rw [enumD_length, ← r1.length]; exact z1)⟩⟩
    · obtain ⟨v, rfl, r⟩ := R'.one
      cases r with | tuple e1 z1 r1 =>
      exact ⟨_, _, rfl, .inr ⟨SqT.sub e1 P'.sub, hd _ H' Hf' Hh' T' P' (walks_enumT e1 r1) (by rw [enumD_length, ← r1.length]; exact z1)⟩⟩
    · exact hd.elim
  · split at q
    · exact hk _ q
    · exact hk _ q
    · exact q.elim
end
end DL

set_option Elab.async false
set_option linter.all false
set_option maxRecDepth 100000
set_option maxHeartbeats 4000000
namespace DL
open PySem PySem.Spec PyProof.Rows L2
theorem strict_anti {α : Type} {le : α → α → Bool} : ∀ {ys : List α}, ys.Pairwise (fun a b => le a b = true ∧ le b a = false) → ∀ a b, a ∈ ys → b ∈ ys → le a b = true → le b a = true → a = b
  | [], _, a, _, ha, _, _, _ => nomatch ha
  | y :: ys, h, a, b, ha, hb, h1, h2 => by
    rw [List.pairwise_cons] at h
    rcases List.mem_cons.mp ha with e1 | m1
    · rcases List.mem_cons.mp hb with e2 | m2
      · rw [e1, e2]
      · have := (h.1 b m2).2; rw [e1] at h2; rw [h2] at this; cases this
    · rcases List.mem_cons.mp hb with e2 | m2
      · have := (h.1 a m1).2; rw [e2] at h1; rw [h1] at this; cases this
      · exact strict_anti h.2 a b m1 m2 h1 h2
theorem sort_is {xs ys : List D} (hp : ys.Perm xs) (hs : ys.Pairwise fun a b => PySem.W.dataLe false D.py a b = true ∧ PySem.W.dataLe false D.py b a = false) : sortD xs = ys := by
  have pm : (sortD xs).Perm ys := (List.mergeSort_perm xs _).trans hp.symm
  refine List.Perm.eq_of_pairwise (le := fun a b => PySem.W.dataLe false D.py a b = true) (fun a b ha hb h1 h2 => strict_anti hs a b (pm.subset ha) hb h1 h2) ?_ (hs.imp fun h => h.1) pm
  exact PySem.W.sort_pairwise (PySem.W.sortLe_total _ false _) xs
section
variable {κ κ' β β' : Type} [DecidableEq κ] [DecidableEq κ']
theorem valD_map {f : κ → κ'} {g : β → β'} (hf : ∀ a b, f a = f b → a = b) (k : κ) : ∀ kvs : List (κ × β), valD (kvs.map fun p => (f p.1, g p.2)) (f k) = (valD kvs k).map g
  | [] => rfl
  | p :: kvs => by
    have ih := valD_map (g := g) hf k kvs
    unfold valD at ih ⊢
    by_cases e : p.1 = k
    · subst e; simp
    · have : ¬ f p.1 = f k := fun z => e (hf _ _ z)
      simp only [List.map_cons, List.find?_cons, e, this, decide_false]
      exact ih
theorem putD_map {f : κ → κ'} {g : β → β'} (hf : ∀ a b, f a = f b → a = b) (k : κ) (v : β) (kvs : List (κ × β)) : putD (kvs.map fun p => (f p.1, g p.2)) (f k) (g v) = (putD kvs k v).map fun p => (f p.1, g p.2) := by
  have ha : ((kvs.map fun p => (f p.1, g p.2)).any fun kv => decide (kv.1 = f k)) = kvs.any fun kv => decide (kv.1 = k) := by
    rw [List.any_map]
    congr 1
    funext p
    show decide (f p.1 = f k) = decide (p.1 = k)
    by_cases e : p.1 = k
    · subst e; simp
    · have : ¬ f p.1 = f k := fun z => e (hf _ _ z)
      rw [decide_eq_false e, decide_eq_false this]
  unfold putD
  rw [ha]
  split
  · rw [List.map_map, List.map_map]
    refine List.map_congr_left fun p _ => ?_
    show (if f p.1 = f k then (f p.1, g v) else (f p.1, g p.2)) = _
    by_cases e : p.1 = k
    · subst e; simp
    · have : ¬ f p.1 = f k := fun z => e (hf _ _ z)
      simp [e, this]
  · simp
end
end DL

set_option Elab.async false
set_option linter.all false
set_option maxRecDepth 100000
set_option maxHeartbeats 4000000
namespace DL
open PySem PySem.Spec PyProof.Rows L2
theorem dataLe_int (a b : Int) : PySem.W.dataLe false D.py (.int a) (.int b) = decide (a ≤ b) := by
  unfold PySem.W.dataLe PySem.W.sortLe
  have e : PyProof.Rows.lexLt itemOrd [Sum.inl b] [Sum.inl a] = decide (b < a) := by rw [PySem.W.lex_one]; rfl
  show (!PyProof.Rows.lexLt itemOrd (PySem.W.keyToks (D.int b).py) (PySem.W.keyToks (D.int a).py)) = _
  rw [D.py, D.py, PySem.W.keyToks, PySem.W.keyToks, e]
  by_cases h : a ≤ b
  · rw [decide_eq_true h, decide_eq_false (by omega)]; rfl
  · rw [decide_eq_false h, decide_eq_true (by omega)]; rfl
def srtI (xs : List Int) : List Int := xs.mergeSort fun a b => decide (a ≤ b)
theorem sortD_ints (xs : List Int) : sortD (xs.map D.int) = (srtI xs).map D.int := by
  unfold sortD srtI
  exact (List.map_mergeSort (f := D.int) (r := fun a b => decide (a ≤ b)) (s := PySem.W.dataLe false D.py) fun a _ b _ => (dataLe_int a b).symm).symm
theorem srtI_perm (xs : List Int) : (srtI xs).Perm xs := List.mergeSort_perm xs _
theorem srtI_sorted (xs : List Int) : (srtI xs).Pairwise (· ≤ ·) := by
  have := List.pairwise_mergeSort (le := fun a b : Int => decide (a ≤ b)) (fun a b c h1 h2 => by simp at *; omega) (fun a b => by simp; omega) xs
  exact this.imp fun h => by simpa using h
theorem sortP_ints (xs : List Int) (h : xs.length ≤ 16777216) : sortP (xs.map D.int) := by
  refine ⟨(depths_le (n := 0) fun x hx => by obtain ⟨p, _, rfl⟩ := List.mem_map.mp hx; exact cmn_int p).1, ?_, ?_, fun x hx => ?_, by rw [List.length_map, sizeLine_eq]; exact h⟩
  · rw [List.map_map]; exact PySem.W.AllAlike.of fun p q => by simp [D.py, PySem.W.alike]
  · rw [List.map_map]; exact PySem.W.Sortable.others fun p => ⟨by simp [D.py], fun xs => by simp [D.py]⟩
  · obtain ⟨p, _, rfl⟩ := List.mem_map.mp hx
    exact Nat.le_trans (cmn_int p).2.1 (by decide)
theorem srtI_strict {xs : List Int} (h : xs.Nodup) : (srtI xs).Pairwise (· < ·) := by
  have h1 := srtI_sorted xs
  have h2 : (srtI xs).Nodup := (srtI_perm xs).nodup_iff.mpr h
  rw [List.nodup_iff_pairwise_ne] at h2
  exact (h1.and h2).imp fun {a b} h => by have := h.1; have := h.2; omega
end DL

set_option Elab.async false
set_option linter.all false
set_option maxRecDepth 100000
set_option maxHeartbeats 4000000
namespace DL
open PySem PySem.Spec PyProof.Rows L2
section
variable {K : PySem.W.Frag} {mg : Str → Option Value} {base h : Heap}
theorem fun_of {x q : Str} {st : Stmt} {f : Addr} {fd : FuncData} (F : FunD K x q (defArgs st) (defBody st) (defScope st) [] [] f fd) : Fun K x q st f fd := by
  obtain ⟨⟨oc, od, dV, kV, doc, pm, an, cdv, ct, osl, rfl, lk, hcd, hD, _⟩, kp⟩ := F
  rcases hD with ⟨_, rfl⟩ | ⟨e, _⟩
  · exact fun_mk lk hcd kp
  · exact absurd rfl e
/-- a value of the top, written in K, bears a datum -/
def rpB (K : PySem.W.Frag) : Nat → D → Value → Bool
  | _, .non, .none => true
  | _, .bool b, .bool c => b == c
  | _, .int i, .int j _ => decide (i = j)
  | _, .str x, .str y _ => decide (x = y)
  | n + 1, .tuple ds, .ref a => match K.lookup a with
    | some ⟨.type c, none, .seq its _, _⟩ => decide (c = "tuple") && (decide (its.size ≤ sizeLine) && (decide (ds.length = its.size) && (ds.zip its.toList).all fun p => rpB K n p.1 p.2))
    | _ => false
  | _, _, _ => false
theorem rpAll_of {n : Nat} (ih : ∀ d u, rpB K n d u = true → ∃ v, RelV v u ∧ ∀ [TabsC] Hf Hh, Rp K Hf Hh v d) : ∀ (ds : List D) (us : List Value), ds.length = us.length → ((ds.zip us).all fun p => rpB K n p.1 p.2) = true → ∃ vs, Vals vs us ∧ ∀ [TabsC] Hf Hh, RpAll K Hf Hh vs ds
  | [], [], _, _ => ⟨[], .nil, fun _ _ => .nil⟩
  | d :: ds, u :: us, hl, ha => by
    rw [List.zip_cons_cons, List.all_cons, Bool.and_eq_true] at ha
    obtain ⟨v, r, q⟩ := ih d u ha.1
    obtain ⟨vs, rs, qs⟩ := rpAll_of ih ds us (by simpa using hl) ha.2
    exact ⟨v :: vs, .cons r rs, fun Hf Hh => .cons (q Hf Hh) (qs Hf Hh)⟩
  | [], _ :: _, hl, _ => by simp at hl
  | _ :: _, [], hl, _ => by simp at hl
theorem rpB_ok : ∀ (n : Nat) (d : D) (u : Value), rpB K n d u = true → ∃ v, RelV v u ∧ ∀ [TabsC] Hf Hh, Rp K Hf Hh v d := by
  intro n
  induction n with
  | zero =>
    intro d u e
    cases d <;> cases u <;> first | (simp [rpB] at e; done) | skip
    · exact ⟨.non, rfl, fun _ _ => .non⟩
    · have := beq_iff_eq.mp (show (_ == _) = true from e); subst this; exact ⟨.bl _, rfl, fun _ _ => .bool _⟩
    · have := of_decide_eq_true (show decide (_ = _) = true from e); subst this; exact ⟨.int _, ⟨_, rfl⟩, fun _ _ => .int _⟩
    · have := of_decide_eq_true (show decide (_ = _) = true from e); subst this; exact ⟨.str _, ⟨_, rfl⟩, fun _ _ => .str _⟩
  | succ n ih =>
    intro d u e
    cases d <;> cases u <;> first | (simp [rpB] at e; done) | skip
    · exact ⟨.non, rfl, fun _ _ => .non⟩
    · have := beq_iff_eq.mp (show (_ == _) = true from e); subst this; exact ⟨.bl _, rfl, fun _ _ => .bool _⟩
    · have := of_decide_eq_true (show decide (_ = _) = true from e); subst this; exact ⟨.int _, ⟨_, rfl⟩, fun _ _ => .int _⟩
    · have := of_decide_eq_true (show decide (_ = _) = true from e); subst this; exact ⟨.str _, ⟨_, rfl⟩, fun _ _ => .str _⟩
    · rename_i ds a
      unfold rpB at e
      split at e
      · rename_i c its m osl q
        simp only [Bool.and_eq_true, decide_eq_true_eq] at e
        obtain ⟨hc, hz, hl, ha⟩ := e
        obtain ⟨vs, rs, qs⟩ := rpAll_of ih ds its.toList (by simpa using hl) ha
        have hv : vs.length = its.size := by rw [rs.length]; simp
        exact ⟨.ref a, rfl, fun Hf Hh => .tuple (.inr ⟨_, its, m, q, by rw [hc], rfl, hz, rs⟩) (by omega) (qs Hf Hh) fun _ => .inr ⟨_, q, by rw [hc], rfl⟩⟩
      · cases e
/-- a constant of the top -/
def cstB (K : PySem.W.Frag) (x : Str) (d : D) : Bool := match PySem.W.nsIn K mainGlobals x with
  | some (some u) => rpB K 4 d u
  | _ => false
theorem cstB_ok (X : K.In h) (G : h.Ns mainGlobals mg) {x : Str} {d : D} (c : cstB K x d = true) : ∃ u v, mg x = some u ∧ RelV v u ∧ ∀ [TabsC] Hf Hh, Rp K Hf Hh v d := by
  unfold cstB at c
  split at c
  · rename_i u e
    obtain ⟨v, r, q⟩ := rpB_ok _ _ _ c
    exact ⟨u, v, PySem.W.mg_of X G e, r, fun Hf Hh => q Hf Hh⟩
  · cases c
def CAf (K : PySem.W.Frag) : String → Addr := fun c => He.ga K (Str.ofString c)
theorem excF_of (X : K.In h) (G : h.Ns mainGlobals mg) {c : String} (g : (He.Fa.glo (Str.ofString c)).ok K = true) (e : (He.Fa.exc (Str.ofString c)).ok K = true) : ExcF K mg (CAf K) c He.veBase := by
  obtain ⟨a, b, d, t⟩ := He.exc_ok e
  exact ⟨He.glo_ok X G g, b, a, d, t⟩
/-- the facts of `_law_word` -/
def excB (K : PySem.W.Frag) (pn : String) (names : List String) : Bool :=
  (names.all fun n => names.all fun m => (n == m) || !decide (CAf K n = CAf K m)) &&
  (names.all fun c => He.eqO (PySem.W.findIn K (.ref (CAf K c)) "__getattribute__") (some (some (.builtin "BaseException.__getattribute__"))) &&
    (He.eqO (PySem.W.findIn K (.ref (CAf K c)) "__getattr__") (some none) && (decide (PySem.W.subIn K (.ref (CAf K c)) (.type "BaseException") = some true) && (PySem.W.hasDictIn K (CAf K c) &&
    (He.eqO (PySem.W.findIn K (.ref (CAf K c)) "__class__") (some (some (.builtin "object.__class__"))) && (He.eqO (PySem.W.specialIn K (.builtin "object.__class__") "__get__") (some (some (.builtin "getset_descriptor.__get__"))) &&
    (decide (PySem.W.takesIn K (.builtin "object.__class__") = some true) && decide (PySem.W.mroIn K (CAf K c) (.type "object") = some true)))))))) &&
  ((names.all fun c => decide (PySem.W.exmOne K (.ref (CAf K c)) (.ref (CAf K pn)) = some true)) &&
  (names.all fun c => names.all fun n => decide (PySem.W.kitOne K (.ref (CAf K c)) (.ref (CAf K n)) = some (decide (n = c)))))
theorem excA_of (X : K.In h) (G : h.Ns mainGlobals mg) {pn : String} {names : List String} (gp : (He.Fa.glo (Str.ofString pn)).ok K = true) (gn : ∀ n ∈ names, (He.Fa.glo (Str.ofString n)).ok K = true) (e : excB K pn names = true) : ExcA K mg (CAf K) pn names names := by
  obtain ⟨e12, e34⟩ := Bool.and_eq_true_iff.mp e
  obtain ⟨e1, e2⟩ := Bool.and_eq_true_iff.mp e12
  obtain ⟨e3, e4⟩ := Bool.and_eq_true_iff.mp e34
  refine ⟨He.glo_ok X G gp, fun n hn => He.glo_ok X G (gn n hn), fun n hn m hm z => ?_, fun c hc => ?_, fun c hc => of_decide_eq_true (List.all_eq_true.mp e3 c hc), fun c hc n hn => of_decide_eq_true (List.all_eq_true.mp (List.all_eq_true.mp e4 c hc) n hn)⟩
  · have q := List.all_eq_true.mp (List.all_eq_true.mp e1 n hn) m hm
    rcases Bool.or_eq_true_iff.mp q with q | q
    · exact beq_iff_eq.mp q
    · rw [decide_eq_true z] at q; cases q
  · have q := List.all_eq_true.mp e2 c hc
    simp only [Bool.and_eq_true, decide_eq_true_eq] at q
    obtain ⟨q1, q2, q3, q4, q5, q6, q7, q8⟩ := q
    exact ⟨He.eqO_ok q1, He.eqO_ok q2, q3, q4, He.eqO_ok q5, He.eqO_ok q6, q7, q8⟩
end
def isTb : Option HO → Bool
  | some (.tbl _) => true
  | _ => false
theorem law_sp [TabsC] {K : PySem.W.Frag} {CA : String → Addr} {S : SF} {H : Hp} {a : Addr} {ns : List Int} (mo : MonoS S) (hT : ∀ p ∈ TabsC.T, H p.1 = some (.tbl #[])) (hl : ns.length ≤ sizeLine) (hS : SqL K H a (ns.map V.int)) (h : S [.scr ns] (fun d => d = .bool true) fun _ => False) :
    spW K CA S [.ref a] H (fun v _ => v = .bl true) fun _ _ _ => False := by
  let Hf : Hp := fun b => if isTb (H b) then none else H b
  let Hh : Hp := fun b => if isTb (H b) then H b else none
  have hf : ∀ b o, H b = some o → isTb (some o) = false → Hf b = some o := fun b o e z => by show (if isTb (H b) then none else H b) = _; rw [e, z]; rfl
  refine ⟨Hf, Hh, fun _ => none, [.scr ns], ⟨fun b o e => ?_, fun b o e => ?_, (fun _ _ e => by cases e), fun b o e => ?_, fun b vs => ⟨fun e => ?_, nofun⟩, fun b ps => ⟨fun e => ?_, nofun⟩, fun p hp => ?_, nofun⟩, .cons (.scr ?_ hl) .nil, mo _ _ _ _ _ (fun d e v H' Hf' Hh' _ _ r => ?_) (fun c z => z.elim) h⟩
  · have e : (if isTb (H b) then none else H b) = some o := e
    show H b = some o ∧ (if isTb (H b) then H b else none) = none ∧ _
    cases z : isTb (H b)
    · rw [z] at e; exact ⟨e, rfl, rfl⟩
    · rw [z] at e; cases e
  · have e : (if isTb (H b) then H b else none) = some o := e
    show H b = some o ∧ (if isTb (H b) then none else H b) = none ∧ _
    cases z : isTb (H b)
    · rw [z] at e; cases e
    · rw [z] at e; exact ⟨e, rfl, rfl⟩
  · show (if isTb (H b) then none else H b) = some o ∨ (if isTb (H b) then H b else none) = some o ∨ _
    cases z : isTb (H b)
    · exact .inl e
    · exact .inr (.inl e)
  · have e : (if isTb (H b) then H b else none) = some _ := e
    cases z : isTb (H b)
    · rw [z] at e; cases e
    · rw [z] at e; have e : H b = some _ := e; rw [e] at z; cases z
  · have e : (if isTb (H b) then none else H b) = some _ := e
    cases z : isTb (H b)
    · rw [z] at e; have e : H b = some _ := e; rw [e] at z; cases z
    · rw [z] at e; cases e
  · refine ⟨#[], ?_, trivial, fun pos cv z => ?_⟩
    · show (if isTb (H p.1) then H p.1 else none) = _
      rw [hT p hp]; rfl
    · cases z
  · rcases hS with (q | ⟨o, q⟩) | q
    · exact .inl (.inl (hf _ _ q rfl))
    · exact .inl (.inr ⟨o, hf _ _ q rfl⟩)
    · exact .inr q
  · subst e; cases r; rfl
/-- the promise of a def, by its own function object -/
theorem fnok_of [TabsC] {P : Program} {w : World} {K : PySem.W.Frag} {mg : Str → Option Value} {base : Heap} {CA : String → Addr} {x qual : Str} {st : Stmt} {f : Addr} {fd : FuncData} {N ps : List Str} {k : Nat} {S : SF} {W : WS} (F : Fun K x qual st f fd) (Sc : FnScope N ps (defScope st))
    (len : ∀ ds Kr Kx, S ds Kr Kx → ds.length = ps.length)
    (der : ∀ (cdv : Value) (A : Around) (outer : List Env) (s : Shared) (H : Hp) (E : XK), Room k (A.deeper (envOfC qual (defScope st) s.heap.objs.size f cdv)) →
      Ctx (cxOf (L2.CX P w) P w K mg base N qual (defScope st) f cdv A outer s H E) CA (XWof CA E) → SDs (cxOf (L2.CX P w) P w K mg base N qual (defScope st) f cdv A outer s H E) (XWof CA E) (defBody st) W)
    (rd : ∀ ds Kr Kx, S ds Kr Kx → W (startE N ds) ⟨fun _ => Kr .non, Kr, fun _ => False, fun _ => False, Kx⟩) : FnOk P w K mg base (L2.CX P w) (k + 1) f fd ps (spW K CA S) := by
  refine F.okX Sc (fun vs H Q E ⟨Hf, Hh, Hx, ds, p, r, h⟩ => by rw [r.length]; exact len _ _ _ h) (fun cdv A outer s H vs Q E hr ⟨Hf, Hh, Hx, ds, p, r, h⟩ => ?_)
  have tk := ctx_def (P := P) (w := w) (K := K) (mg := mg) (base := base) (CA := CA) (N := N) (qual := qual) (sc := defScope st) (f := f) (cdv := cdv) (A := A) (outer := outer) (s := s) (H := H) (E := E)
  have d := der cdv A outer s H E hr ⟨rfl, fun σ => (passAt tk σ)⟩
  refine ⟨_, d.ps, ?_⟩
  refine LS.at d.mo p (start_ss r) (rd _ _ _ h) ⟨fun ρ q σ' H' Hf' Hh' Hx' T P' S' => ?_, fun dd q => q, fun _ q => q.elim, fun _ q => q.elim, fun c q => q⟩
  obtain ⟨Hf3, s3, p3⟩ := collapse P' S'.sub
  exact q .non H' Hf3 Hh' (T.trans (Tr.sub s3)) p3 .non
/-- a def that makes lambdas: its code object, its table -/
theorem lamC_of [t : TabsC] {K : PySem.W.Frag} {mg : Str → Option Value} {base : Heap} {x q : Str} {st : Stmt} {fd : FuncData} (F : Fun K x x st (He.ga K x) fd) (TB : LamX.TabB base mg (He.cT K (x, none)).1 (He.cT K (x, none)).2) (mt : ((He.cT K (x, none)).2, q ++ "<lambda>") ∈ TabsC.T)
    (hu : ∀ p ∈ TabsC.T, p.1 = (He.cT K (x, none)).2 → p.2 = q ++ "<lambda>") : LamC base mg fd.code (He.cT K (x, none)).1 (He.cT K (x, none)).2 q := by
  obtain ⟨oc, od, kV, doc, pm, an, cdv, ct, osl, rfl, lk, hcd⟩ := F.ex
  obtain ⟨c, hc⟩ := He.codeIn_ref hcd
  refine ⟨TB, ?_, mt, hu⟩
  have e : He.codeOf K (x, none) = c := He.codeOf_eq (p := (x, none)) lk hc
  show cdv = .ref (He.codeOf K (x, none))
  rw [e]; exact hc
end DL

set_option Elab.async false
set_option linter.all false
set_option maxRecDepth 100000
set_option maxHeartbeats 4000000
namespace DL
open PySem PySem.Spec PyProof.Rows L2
/-- a def's promise, while no repr is under way -/
structure FnG (P : Program) (w : World) (K : PySem.W.Frag) (mg : Str → Option Value) (base : Heap) (k : Nat) (f : Addr) (fd : FuncData) (ps : List Str) (sp : Sp) : Prop where
  len : ∀ vs H Q E, sp vs H Q E → vs.length = ps.length
  go : ∀ (A : Around) (outer : List Env) (s : Shared) (H : Hp) (args : Args) (us : List Value) (vs : List V) (Q : VK) (E : XK), A.guards = some [] → Room k A → Env0 P w K mg base A outer s H → BindsTo s fd args (ps.zip us) → Vals vs us → sp vs H Q E →
    codeAny (model P w) A (.call (.ref f) args) (CR (L2.CX P w) outer P w H s Q E) s
theorem FnG.of {P : Program} {w : World} {K : PySem.W.Frag} {mg : Str → Option Value} {base : Heap} {k : Nat} {f : Addr} {fd : FuncData} {ps : List Str} {sp : Sp} (F : FnOk P w K mg base (L2.CX P w) k f fd ps sp) : FnG P w K mg base k f fd ps sp :=
  ⟨F.len, fun A outer s H args us vs Q E _ => F.run A outer s H args us vs Q E⟩
section
variable {X : Cx} {k : Nat} {f : Addr} {fd : FuncData} {ps : List Str} {sp : Sp} {E : St → XK} {x : Str} {p pos : Pos} {e : Expr} {es : List Expr} {t : TA}
/-- such a def is entered -/
theorem enterG {pins : List (Addr × Obj)} {σ : St} {H : Hp} {s : Shared} {Q : VK} {us : List Value} {vs : List V} (F : FnG X.prog X.w X.K X.mg X.base k f fd ps sp) (hgd : X.A.guards = some []) (hr : Room k X.A) (hb : Binds X.K fd ps []) (hx : PassesAt (L2.CX X.prog X.w) X σ (E σ))
    (I : Inv X pins σ H s) (r : Vals vs us) (h : sp vs H Q (E σ)) : wpAny (model X.prog X.w) X.A (call (.ref f) us) (EP X pins σ Q) X.xe s := by
  have hb1 := hb s us I.kIn (by rw [List.append_nil, ← r.length]; exact F.len _ _ _ _ h)
  rw [List.append_nil] at hb1
  refine wpAny_call (codeAny_mono (F.go X.A X.stack s H ⟨us, []⟩ us vs Q (E σ) hgd hr I.env0 hb1 r h) fun r s' hq => ?_)
  match r, hq with
  | .error e, hq => exact hx pins H s e s' I hq
  | .ok (.ret u), hq => exact I.after hq
  | .ok .next, hq => exact False.elim hq
  | .ok .brk, hq => exact False.elim hq
  | .ok .cont, hq => exact False.elim hq
theorem pe_callG (F : FnG X.prog X.w X.K X.mg X.base k f fd ps sp) (hgd : X.A.guards = some []) (hr : Room k X.A) (hg : Gl X x) (hm : X.mg x = some (.ref f)) (hk : PySem.W.keepIn X.K (.ref f) = true) (hb : Binds X.K fd ps []) (hx : ∀ σ, PassesAt (L2.CX X.prog X.w) X σ (E σ))
    (ha : PA X (e :: es) t) (hdb : (x == ("__debug__" : Str)) = false := by decide) (he : starEach (e :: es) X.env = (false, eval e X.env) :: starEach es X.env := by rfl) (hpl : (backTo pos (starEach es X.env)).any (·.1) = false := by rfl) :
    PE X (.Call (.Name x p) (e :: es) [] pos) (fun σ H Q => t σ H fun vs H1 => sp vs H1 Q (E σ)) :=
  ⟨fun pins s σ H Q I h => wpAny_Call_Name_kw (ld_glob I hg hm (PySem.W.callWith_K (h₀ := X.base) I.ok.mod.kin hk (thn (ha.run pos pins s σ H _ I h) fun us s1 ⟨vs, H1, I1, r, q⟩ => ⟨I1.kIn, enterG F hgd hr hb (hx σ) I1 r q⟩) he hpl) hdb)⟩
end
/-- the rule of a def's body -/
theorem fnG_of {P : Program} {w : World} {K : PySem.W.Frag} {mg : Str → Option Value} {base : Heap} {k : Nat} {f : Addr} {name qual : Str} {params : Arguments} {body : List Stmt} {scope : Scope} {dV kV doc pm cdv ct oc : Value} {an od : Option Addr}
    {osl : Array (Option Value)} {N ps : List Str} {sp : Sp} (lk : K.lookup f = some ⟨oc, od, .func (PySem.W.fnOf name qual params body scope dV kV doc pm an cdv ct), osl⟩) (hcd : PySem.W.codeIn K cdv qual = true) (S : FnScope N ps scope)
    (len : ∀ vs H Q E, sp vs H Q E → vs.length = ps.length)
    (hbody : ∀ (A : Around) (outer : List Env) (s : Shared) (H : Hp) (vs : List V) (Q : VK) (E : XK), A.guards = some [] → Room k (A.deeper (envOfC qual scope s.heap.objs.size f cdv)) → sp vs H Q E →
      ∃ t, PSs (cxOf (L2.CX P w) P w K mg base N qual scope f cdv A outer s H E) body t ∧ t { nx := fun _ H' => Q .non H', rt := Q } (start N vs) H) :
    FnG P w K mg base (k + 1) f (PySem.W.fnOf name qual params body scope dV kV doc pm an cdv ct) ps sp := by
  refine ⟨len, fun A outer s H args us vs Q E hgd hr e0 hb r hsp => ?_⟩
  have kept : ∀ b o, base.get? b = some o → s.heap.get? b = some o := fun b o e => (e0.bs b o e).1
  have KX : K.In s.heap := e0.mod.kin.keeps kept
  refine codeAny_call_function hr.depth (KX _ _ lk) rfl S.co S.gen rfl (PySem.W.codeRec_of KX hcd) (hb _ _ _ _ (wpAny_newFunctionEnv_cells S.kind (fun ⟨n, v⟩ hy => ?_) fun env he s1 x => ?_))
  · have hn := (List.of_mem_zip hy).1
    exact (S.par n hn).imp id fun q => ⟨q, PySem.W.cellsFrom_some _ _ _ (.inl q)⟩
  · subst he
    obtain ⟨t, ht, hq⟩ := hbody A outer s H vs Q E hgd (hr.deeper _) hsp
    have I := inv_start (CX := L2.CX P w) (E := E) S hr.hd e0 (len _ _ _ _ hsp) r x
    refine ⟨(e0.mod.nolimit.keeps kept).keeps x.toInCall.keep, codeAny_func (wpAny_mono (ht.run [] s1 (start N vs) H _ I hq) (fun fl s' hs => ?_) fun e s' hs => hs)⟩
    match fl, hs with
    | .ret u, hs => obtain ⟨v, σ', H', J, rv, q⟩ := hs; exact ⟨v, H', J.os, J.bare, J.base, J.hok, rv, q⟩
    | .next, hs => obtain ⟨σ', H', J, q⟩ := hs; exact ⟨.non, H', J.os, J.bare, J.base, J.hok, rfl, q⟩
    | .brk, hs => obtain ⟨_, _, _, q⟩ := hs; exact False.elim q
    | .cont, hs => obtain ⟨_, _, _, q⟩ := hs; exact False.elim q
section
variable {X : Cx}
theorem call_reprD (hgd : X.A.guards = some []) (hu : X.A.units + 70 < cLine) : CallR X (.builtin "repr") (fun xs H Q => ∃ x d, xs = [x] ∧ Dp X.K H x d ∧ SeqAt.shaped d = true ∧ d.showable = true ∧ d.shown.length ≤ sizeLine ∧ Q (.str d.shown) H) := by
  intro pins s σ H xs us Q I rxs h
  obtain ⟨x, d, rfl, hd, hs, hsh, hz, q⟩ := h
  obtain ⟨u, rfl, ru⟩ := rxs.one
  obtain ⟨as, r⟩ := Dp.reads I d x u hd ru
  have hcl : d.canLay0 = true := SeqAt.canLay_of_shaped hs
  have hdep : d.depth ≤ 64 := by
    unfold SeqAt.shaped at hs
    simp only [Bool.and_eq_true, decide_eq_true_eq] at hs
    omega
  cases r with
  | none => exact P.repr_of_none ⟨.str _, H, I.tok _, ⟨_, rfl⟩, q⟩
  | bool b => exact P.repr_of_bool ⟨.str _, H, I.tok _, ⟨_, rfl⟩, q⟩
  | int i => exact P.repr_of_int (of_decide_eq_true hsh) ⟨.str _, H, I.tok _, ⟨_, rfl⟩, q⟩
  | str y => exact P.repr_of_str ⟨.str _, H, I.tok _, ⟨_, rfl⟩, q⟩ hz
  | list h1 h2 h3 h4 => exact repr_of_reads' (.list h1 h2 h3 h4) hsh (PyData.noDict_hsm (PyData.hasDict_of_canLay _ hcl)) hgd (by omega) (fun _ _ e => e) (fun h' u tk hk => ⟨.str _, H, I.kept (t' := tk) hk, ⟨_, rfl⟩, q⟩) hz
  | tuple h1 h2 h3 h4 => exact repr_of_reads' (.tuple h1 h2 h3 h4) hsh (PyData.noDict_hsm (PyData.hasDict_of_canLay _ hcl)) hgd (by omega) (fun _ _ e => e) (fun h' u tk hk => ⟨.str _, H, I.kept (t' := tk) hk, ⟨_, rfl⟩, q⟩) hz
  | dict h1 h2 h3 h4 h5 => exact repr_of_reads' (.dict h1 h2 h3 h4 h5) hsh (PyData.noDict_hsm (PyData.hasDict_of_canLay _ hcl)) hgd (by omega) (fun _ _ e => e) (fun h' u tk hk => ⟨.str _, H, I.kept (t' := tk) hk, ⟨_, rfl⟩, q⟩) hz
end
end DL

set_option Elab.async false
set_option linter.all false
set_option maxRecDepth 100000
set_option maxHeartbeats 4000000
namespace DL
open PySem PySem.Spec PyProof.Rows L2
section
variable [TabsC]
structure DFnG (P : Program) (w : World) (K : PySem.W.Frag) (mg : Str → Option Value) (base : Heap) (CA : String → Addr) (k : Nat) (x : Str) (S : SF) : Prop where
  ex : ∃ (f : Addr) (fd : FuncData) (ps : List Str), FnG P w K mg base k f fd ps (spW K CA S) ∧ mg x = some (.ref f) ∧ PySem.W.keepIn K (.ref f) = true ∧ Binds K fd ps []
  mo : MonoS S
section
variable {X : Cx} {xw : XW}
theorem ed_callG {CA : String → Addr} {k : Nat} {S : SF} {x : Str} {e : Expr} {es : List Expr} {f : WA} {p pos : Pos} (G : DFnG X.prog X.w X.K X.mg X.base CA k x S) (hgd : X.A.guards = some []) (C : Ctx X CA xw) (hr : Room k X.A) (hg : Gl X x) (h : AD X xw (e :: es) f)
    (hdb : (x == ("__debug__" : Str)) = false := by decide) (he : starEach (e :: es) X.env = (false, eval e X.env) :: starEach es X.env := by rfl) (hpl : (backTo pos (starEach es X.env)).any (·.1) = false := by rfl) :
    ED X xw (.Call (.Name x p) (e :: es) [] pos) (callW S f) := by
  obtain ⟨fa, fd, ps, F, hm, hk, hb⟩ := G.ex
  refine ⟨PE.imp (pe_callG (E := fun _ => EX CA xw) F hgd hr hg hm hk hb C.pass h.pa hdb he hpl) fun σ H Q ⟨Hf, Hh, Hx, ρ, P, Sv, q⟩ => ?_, mono_call G.mo h.mo⟩
  refine LA.at h.mo P Sv q (fun ds hd vs H' Hf' Hh' T' P' R' => ?_) (fun c hc => hc)
  exact ⟨Hf', Hh', Hx, ds, P', R', G.mo _ _ _ _ _ (fun d b => b.tr T') (fun c b H2 Hf2 Hh2 T2 P2 => ⟨c, rfl, rfl, b H2 Hf2 Hh2 (T'.trans T2) P2⟩) hd⟩
/-- repr -/
def reprW : W1 := fun ds K => match ds with
  | [d] => (d.cm = true ∧ d.py.showable = true ∧ d.py.shown.length ≤ 16777216) ∧ K (.str d.py.shown)
  | _ => False
theorem cd_repr (hgd : X.A.guards = some []) (hu : X.A.units + 70 < cLine) : CallD X (.builtin "repr") reprW := by
  refine ⟨CallR.imp (call_reprD hgd hu) fun xs H Q ⟨Hf, Hh, Hx, ds, P, R, q⟩ => ?_, fun ds K1 K2 hk h => ?_⟩
  · unfold reprW at q
    split at q
    · rename_i d
      obtain ⟨v, rfl, r⟩ := R.one
      have a := Bool.and_eq_true_iff.mp q.1.1
      exact ⟨v, d.py, rfl, r.dp P.sub a.1, a.2, q.1.2.1, by rw [sizeLine_eq]; exact q.1.2.2, q.2.now P (.str _)⟩
    · exact q.elim
  · unfold reprW at h ⊢
    split at h <;> first | exact ⟨h.1, hk _ h.2⟩ | exact h.elim
end
section
variable {P : Program} {w : World} {K : PySem.W.Frag} {mg : Str → Option Value} {base : Heap} {CA : String → Addr}
theorem fnG_ok {x qual : Str} {st : Stmt} {f : Addr} {fd : FuncData} {N ps : List Str} {k : Nat} {S : SF} {W : WS} (F : Fun K x qual st f fd) (Sc : FnScope N ps (defScope st))
    (len : ∀ ds Kr Kx, S ds Kr Kx → ds.length = ps.length)
    (der : ∀ (cdv : Value) (A : Around) (outer : List Env) (s : Shared) (H : Hp) (E : XK), Room k (A.deeper (envOfC qual (defScope st) s.heap.objs.size f cdv)) → A.guards = some [] →
      Ctx (cxOf (L2.CX P w) P w K mg base N qual (defScope st) f cdv A outer s H E) CA (XWof CA E) → SDs (cxOf (L2.CX P w) P w K mg base N qual (defScope st) f cdv A outer s H E) (XWof CA E) (defBody st) W)
    (rd : ∀ ds Kr Kx, S ds Kr Kx → W (startE N ds) ⟨fun _ => Kr .non, Kr, fun _ => False, fun _ => False, Kx⟩) : FnG P w K mg base (k + 1) f fd ps (spW K CA S) := by
  obtain ⟨oc, od, kV, doc, pm, an, cdv, ct, osl, rfl, lk, hcd⟩ := F.ex
  refine fnG_of lk hcd Sc (fun vs H Q E ⟨Hf, Hh, Hx, ds, p, r, h⟩ => by rw [r.length]; exact len _ _ _ h) (fun A outer s H vs Q E hgd hr ⟨Hf, Hh, Hx, ds, p, r, h⟩ => ?_)
  have tk := ctx_def (P := P) (w := w) (K := K) (mg := mg) (base := base) (CA := CA) (N := N) (qual := qual) (sc := defScope st) (f := f) (cdv := cdv) (A := A) (outer := outer) (s := s) (H := H) (E := E)
  have d := der cdv A outer s H E hr hgd ⟨rfl, fun σ => (passAt tk σ)⟩
  refine ⟨_, d.ps, ?_⟩
  refine LS.at d.mo p (start_ss r) (rd _ _ _ h) ⟨fun ρ q σ' H' Hf' Hh' Hx' T P' S' => ?_, fun dd q => q, fun _ q => q.elim, fun _ q => q.elim, fun c q => q⟩
  obtain ⟨Hf3, s3, p3⟩ := collapse P' S'.sub
  exact q .non H' Hf3 Hh' (T.trans (Tr.sub s3)) p3 .non
theorem dfnG_ok {x qual : Str} {st : Stmt} {f : Addr} {fd : FuncData} {N ps : List Str} {k : Nat} {S : SF} {W : WS} (F : Fun K x qual st f fd) (Sc : FnScope N ps (defScope st)) (hm : mg x = some (.ref f)) (hb : Binds K fd ps []) (mo : MonoS S)
    (len : ∀ ds Kr Kx, S ds Kr Kx → ds.length = ps.length)
    (der : ∀ (cdv : Value) (A : Around) (outer : List Env) (s : Shared) (H : Hp) (E : XK), Room k (A.deeper (envOfC qual (defScope st) s.heap.objs.size f cdv)) → A.guards = some [] →
      Ctx (cxOf (L2.CX P w) P w K mg base N qual (defScope st) f cdv A outer s H E) CA (XWof CA E) → SDs (cxOf (L2.CX P w) P w K mg base N qual (defScope st) f cdv A outer s H E) (XWof CA E) (defBody st) W)
    (rd : ∀ ds Kr Kx, S ds Kr Kx → W (startE N ds) ⟨fun _ => Kr .non, Kr, fun _ => False, fun _ => False, Kx⟩) : DFnG P w K mg base CA (k + 1) x S :=
  ⟨⟨f, fd, ps, fnG_ok F Sc len der rd, hm, F.kp, hb⟩, mo⟩
end
end
open Classical in
/-- what is tracked as the law is entered: the script, the tables -/
noncomputable def heap0 (K : PySem.W.Frag) (a : Addr) (tabs : List Addr) (vs : List Value) (ns : List Int) : Hp := fun b =>
  if b ∈ tabs then some (.tbl #[]) else if b = a ∧ K.lookup a = none then some (.frz { cls := .type "list", data := .seq vs.toArray } (.lst (ns.map V.int))) else none
theorem heap0_at {K : PySem.W.Frag} {a : Addr} {tabs : List Addr} {vs : List Value} {ns : List Int} {b : Addr} {o : HO} (h : heap0 K a tabs vs ns b = some o) :
    (b ∈ tabs ∧ o = .tbl #[]) ∨ (b = a ∧ K.lookup a = none ∧ o = .frz { cls := .type "list", data := .seq vs.toArray } (.lst (ns.map V.int))) := by
  unfold heap0 at h
  split at h
  · rename_i q; exact .inl ⟨q, (Option.some.inj h).symm⟩
  · split at h
    · rename_i q; exact .inr ⟨q.1, q.2, (Option.some.inj h).symm⟩
    · cases h
/-- what is known of the law as it is entered -/
def LawG (l : PySem.W.OpenLaw) (w : World) (K : PySem.W.Frag) (k n : Nat) (x : Str) (mg : Str → Option Value) (fa : Addr) (h : Heap) : Prop :=
  ∃ (fd : FuncData) (cs : List (Addr × Addr)) (sp : Sp), (∀ p ∈ cs, h.get? p.2 = some { cls := .none, data := .fields #[] } ∧ K.lookup p.2 = none ∧ PySem.W.CodeHd h p.1 p.2) ∧ (∀ (s : Shared) (u : Value), BindsTo s fd ⟨[u], []⟩ [(x, u)]) ∧
    (∀ (H : Hp) (a : Addr) (ns : List Int), ns.length ≤ n → (∀ p ∈ cs, H p.2 = some (.tbl #[])) → SqL K H a (ns.map V.int) → sp [.ref a] H (fun v _ => v = .bl true) fun _ _ _ => False) ∧
    ∀ base : Heap, K.In base → base.Ns mainGlobals mg → (∀ p ∈ cs, LamX.TabB base mg p.1 p.2) → FnG l.prog w K mg base k fa fd [x] sp
theorem guards_callerA : callerA.guards = some [] := rfl
theorem walkG {l : PySem.W.OpenLaw} {n k : Nat} {q : Program} {loose : List Str} {XP : (Str → Option Value) → Heap → Prop} {YP : World → Heap → Prop} {d : DefRec} {x : Str} (hn : l.most = some n) (hn2 : n ≤ sizeLine) (hdf : d.params.defaults = []) (hr : Room k callerA)
    (F : ∀ (w : World) (mg : Str → Option Value) (fa : Addr) (h : Heap), YP w h → h.Ns mainGlobals mg → mg d.name = some (.ref fa) → ∃ K : PySem.W.Frag, K.In h ∧ LawG l w K k n x mg fa h) :
    PySem.W.WalkO q loose XP YP l.row.toRowW d [] (fun f vs => PySem.call f vs) := by
  refine Att.attach_callB hn hdf fun w s₀ s₁ mg mb fa o pm cd doc a vs ns G Y ho hd hcd hmg hobj hints hlen hbits hg => ?_
  obtain ⟨K, KX, fd, cs, sp, hT, hb, hsp, hF⟩ := F w mg fa _ Y G.T.g hmg
  let tabs := cs.map (·.2)
  let H := heap0 K a tabs vs ns
  have rv : Vals (ns.map V.int) vs := vals_ints hints
  have ln : vs.length = ns.length := hints.length
  have hz : ns.length ≤ sizeLine := Nat.le_trans hlen hn2
  have tabAt : ∀ b ∈ tabs, s₁.heap.get? b = some { cls := .none, data := .fields #[] } ∧ K.lookup b = none := fun b hb => by
    obtain ⟨p, hp, rfl⟩ := List.mem_map.mp hb
    exact ⟨(hT p hp).1, (hT p hp).2.1⟩
  have inTabs : ∀ p ∈ cs, p.2 ∈ tabs := fun p hp => List.mem_map.mpr ⟨p, hp, rfl⟩
  have aT : a ∉ tabs := fun z => by
    have e := (tabAt a z).1.symm.trans hobj
    have := congrArg Obj.data (Option.some.inj e)
    cases this
  have hTab : ∀ p ∈ cs, H p.2 = some (.tbl #[]) := fun p hp => by
    show heap0 K a tabs vs ns p.2 = _
    unfold heap0
    rw [if_pos (inTabs p hp)]
  have hScr : SqL K H a (ns.map V.int) := by
    cases e : K.lookup a with
    | none =>
      refine .inl (.inr ⟨{ cls := .type "list", data := .seq vs.toArray }, ?_⟩)
      show heap0 K a tabs vs ns a = _
      unfold heap0
      rw [if_neg aT, if_pos ⟨rfl, e⟩]
    | some u =>
      have e2 := (KX a u e).symm.trans hobj
      cases Option.some.inj e2
      exact .inr ⟨_, vs.toArray, _, e, rfl, rfl, rfl, by rw [List.size_toArray, ln]; exact hz, by simpa using rv⟩
  -- what is tracked is so
  have hok : HOk l.prog w H s₁.heap := fun b u e => by
    rcases heap0_at e with ⟨q1, rfl⟩ | ⟨rfl, _, rfl⟩
    · exact (tabAt b q1).1
    · exact ⟨hobj, by rw [List.length_map]; exact hz, vs, _, rv, hobj⟩
  have inK : ∀ b u, K.lookup b = some u → H b = none := fun b u e => by
    cases q : H b with
    | none => rfl
    | some o2 =>
      rcases heap0_at q with ⟨q1, _⟩ | ⟨rfl, q1, _⟩
      · rw [(tabAt b q1).2] at e; cases e
      · rw [q1] at e; cases e
  -- an object of another kind is not tracked
  have off : ∀ b u, s₁.heap.get? b = some u → (∀ its m, u.data ≠ .seq its m) → u.data ≠ .fields #[] → H b = none := fun b u e n1 n2 => by
    cases q : H b with
    | none => rfl
    | some o2 =>
      rcases heap0_at q with ⟨q1, _⟩ | ⟨rfl, _, _⟩
      · have e2 := (tabAt b q1).1.symm.trans e
        cases Option.some.inj e2
        exact absurd rfl n2
      · have e2 := hobj.symm.trans e
        cases Option.some.inj e2
        exact absurd rfl (n1 _ _)
  have down : ∀ b u, s₁.heap.get? b = some u → (∀ its m, u.data ≠ .seq its m) → u.data ≠ .fields #[] → (hidT s₁.heap H).get? b = some u := fun b u e n1 n2 => hidT_get e (off b u e n1 n2)
  have nsD : ∀ {b : Addr} {m : Str → Option Value}, s₁.heap.Ns b m → (hidT s₁.heap H).Ns b m := fun {b m} ⟨u, es, ep, e, hd, r⟩ => ⟨u, es, ep, down b u e (fun _ _ z => by rw [hd] at z; cases z) (fun z => by rw [hd] at z; cases z), hd, r⟩
  have KB : K.In (hidT s₁.heap H) := fun b u e => hidT_get (KX b u e) (inK b u e)
  have noG : ∀ b ∈ tabs, mainGlobals ≠ b := fun b hb z => by
    obtain ⟨u, es, ep, e, hd, _⟩ := G.T.g
    rw [z, (tabAt b hb).1] at e
    cases Option.some.inj e
    cases hd
  have TB : ∀ p ∈ cs, LamX.TabB (hidT s₁.heap H) mg p.1 p.2 := fun p hp => by
    refine ⟨?_, ?_, noG _ (inTabs p hp)⟩
    · obtain ⟨u, us, file, tf, flags, tg, inF, text, tt, e1, r1, r2, r3, r4⟩ := (hT p hp).2.2
      exact ⟨u, us, file, tf, flags, tg, inF, text, tt, down _ u e1 (fun _ _ z => by rw [r2] at z; cases z) (fun z => by rw [r2] at z; cases z; simp at r3), r1, r2, r3, r4⟩
    · obtain ⟨bm, ob, b1, b2, b3, b4, b5, b6⟩ := G.T.bmain
      refine ⟨bm, ob, b1, b2, fun z => ?_, fun z => ?_, down bm ob b3 (fun _ _ z => by rw [b6] at z; cases z) (fun z => by rw [b6] at z; cases z), b4, b5, b6⟩
      · obtain ⟨u, es, ep, e, hd, _⟩ := G.T.g
        rw [← z, b3] at e
        cases Option.some.inj e
        rw [b6] at hd; cases hd
      · rw [z, (tabAt _ (inTabs p hp)).1] at b3
        cases Option.some.inj b3
        cases b4
  have hM : L2.Mod K mg (hidT s₁.heap H) := ⟨KB, nsD G.T.g, ⟨mb, nsD G.T.b, G.T.builtins⟩, let ⟨mc, m1, m2⟩ := G.T.nolimit; ⟨mc, nsD m1, m2⟩⟩
  have e0 : Env0 l.prog w K mg (hidT s₁.heap H) callerA [] s₁ H := ⟨rfl, hM, fun b u e => of_hidT e, Nat.le_of_eq (hidT_size _ _), trivial, (fun b z => by cases z), hok, .of_eq hg⟩
  refine codeAny_mono ((hF _ KB (nsD G.T.g) TB).go callerA [] s₁ H ⟨[.ref a], []⟩ [.ref a] [.ref a] _ _ guards_callerA hr e0 (hb s₁ (.ref a)) (.cons rfl .nil) (hsp H a ns hlen hTab hScr)) fun r s' hq => ?_
  match r, hq with
  | .error e, hq =>
    obtain ⟨_, _, _, _, _, _, _, _, _, _, _, _, z⟩ := hq
    exact False.elim z
  | .ok .next, hq => exact False.elim hq
  | .ok .brk, hq => exact False.elim hq
  | .ok .cont, hq => exact False.elim hq
  | .ok (.ret u), hq =>
    obtain ⟨v, H', os, bare, un, hok', r', q'⟩ := hq
    have q' : v = .bl true := q'
    subst q'
    have ru : u = Value.bool true := r'
    subst ru
    have tabs' : ∀ b ∈ tabs, ∃ more : Array Value, s'.heap.get? b = some { cls := .none, data := .fields more } := fun b hb => by
      obtain ⟨p, hp, rfl⟩ := List.mem_map.mp hb
      obtain ⟨more, z⟩ := un.tbls p.2 #[] (hTab p hp)
      exact ⟨_, hok' p.2 _ z⟩
    have keep : ∀ b u, b ∉ tabs → s₁.heap.get? b = some u → s'.heap.get? b = some u := fun b u hb e => by
      cases q : H b with
      | none => exact un.keep b u e q (fun z => by cases z) (fun z => by cases z)
      | some o2 =>
        rcases heap0_at q with ⟨q1, _⟩ | ⟨rfl, _, rfl⟩
        · exact absurd q1 hb
        · obtain ⟨e1, _⟩ := hok' b _ (un.frzs b _ _ q)
          rw [hobj] at e
          rw [e1, ← e]
    refine ⟨rfl, ⟨fun b u e => ?_, fun b u e => ?_⟩, os, bare⟩
    · by_cases hb : b ∈ tabs
      · obtain ⟨p, hp, rfl⟩ := List.mem_map.mp hb
        obtain ⟨more, hm⟩ := tabs' p.2 hb
        rw [(tabAt p.2 hb).1] at e
        cases Option.some.inj e
        exact .inr (.inl ⟨(((hT p hp).2.2).tab (hT p hp).1).isCodeTable, rfl, #[], more, rfl, by rw [Array.empty_append]; exact hm⟩)
      · exact .inl (keep b u hb e)
    · by_cases hb : b ∈ tabs
      · obtain ⟨more, hm⟩ := tabs' b hb
        exact ⟨_, hm⟩
      · exact ⟨u, keep b u hb e⟩
end DL

set_option Elab.async false
set_option linter.all false
set_option maxRecDepth 100000
set_option maxHeartbeats 4000000
namespace DL
open PySem PySem.Spec PyProof.Rows L2
variable [TabsC]
def eqA : W2 := fun x y K => match x, y with
  | .int a, .int b => K (.bool (a == b))
  | .str a, .str b => K (.bool (a == b))
  | .bool a, .bool b => K (.bool (a == b))
  | x, y => eqW x y K
def neA : W2 := fun x y K => match x, y with
  | .int a, .int b => K (.bool (!(a == b)))
  | .str a, .str b => K (.bool (!(a == b)))
  | .bool a, .bool b => K (.bool (!(a == b)))
  | x, y => neW x y K
section
variable {X : Cx}
theorem od_eqA (hu : X.A.units + 64 < cLine) : OpD X (compareOp .Eq) eqA := by
  have E := od_eq hu
  refine ⟨OpR.imp (OpR.or op_eq E.op) fun x y H Q ⟨Hf, Hh, Hx, dx, dy, P, rx, ry, h⟩ => ?_, fun x y K1 K2 hk h => ?_⟩
  · unfold eqA at h
    split at h
    · cases rx; cases ry; exact .inl ⟨rfl, by rw [dec_int]; exact h.now P (.bool _)⟩
    · cases rx; cases ry; exact .inl ⟨rfl, by rw [dec_str]; exact h.now P (.bool _)⟩
    · cases rx; cases ry; exact .inl ⟨rfl, by rw [dec_bl]; exact h.now P (.bool _)⟩
    · exact .inr ⟨Hf, Hh, Hx, dx, dy, P, rx, ry, h⟩
  · unfold eqA at h ⊢
    split at h
    · exact hk _ h
    · exact hk _ h
    · exact hk _ h
    · exact E.mo _ _ _ _ hk h
theorem od_neA (hu : X.A.units + 64 < cLine) : OpD X (compareOp .NotEq) neA := by
  have E := od_ne hu
  refine ⟨OpR.imp (OpR.or op_ne E.op) fun x y H Q ⟨Hf, Hh, Hx, dx, dy, P, rx, ry, h⟩ => ?_, fun x y K1 K2 hk h => ?_⟩
  · unfold neA at h
    split at h
    · cases rx; cases ry; exact .inl ⟨rfl, by rw [dec_int]; exact h.now P (.bool _)⟩
    · cases rx; cases ry; exact .inl ⟨rfl, by rw [dec_str]; exact h.now P (.bool _)⟩
    · cases rx; cases ry; exact .inl ⟨rfl, by rw [dec_bl]; exact h.now P (.bool _)⟩
    · exact .inr ⟨Hf, Hh, Hx, dx, dy, P, rx, ry, h⟩
  · unfold neA at h ⊢
    split at h
    · exact hk _ h
    · exact hk _ h
    · exact hk _ h
    · exact E.mo _ _ _ _ hk h
end
/-- a datum whose text has room; n: signs at most -/
structure RP (d : D) (n : Nat) : Prop where
  pl : d.pl = true
  dp : d.py.depth ≤ 60
  cl : d.py.canLay0 = true
  sh : d.py.showable = true
  ln : d.py.shown.length ≤ n
theorem RP.mono {d : D} {n m : Nat} (h : RP d n) (l : n ≤ m) : RP d m := ⟨h.pl, h.dp, h.cl, h.sh, Nat.le_trans h.ln l⟩
theorem RP.ok {d : D} {n : Nat} (h : RP d n) (l : n ≤ 16777216 := by decide) : d.cm = true ∧ d.py.showable = true ∧ d.py.shown.length ≤ 16777216 := by
  refine ⟨?_, h.sh, Nat.le_trans h.ln l⟩
  unfold D.cm SeqAt.shaped
  rw [h.pl, h.cl, decide_eq_true (Nat.le_trans h.dp (by decide))]; rfl
theorem log2_lt {i : Int} {k : Nat} (h : i.natAbs < 2 ^ k) (hk : 0 < k) : i.natAbs.log2 < k := by
  by_cases e : i.natAbs = 0
  · rw [e]; simpa using hk
  · exact (Nat.log2_lt e).mpr h
theorem rp_int {i : Int} (h : i.natAbs < 2 ^ 64) : RP (.int i) 65 := by
  refine ⟨by simp [D.pl], by simp [D.py, PyData.depth], by simp [D.py, PyData.canLay0], ?_, ?_⟩
  · rw [D.py, PyData.showable]
    exact decide_eq_true (Nat.lt_of_lt_of_le (log2_lt h (by decide)) (by decide))
  · rw [D.py, PyData.shown]
    have e := PySem.int_text_length_le (k := 64) (by decide) (log2_lt h (by decide))
    rw [PySem.ofString_length]; exact e
theorem rp_bool (b : Bool) : RP (.bool b) 5 := by
  cases b <;> exact ⟨by simp [D.pl], by simp [D.py, PyData.depth], by simp [D.py, PyData.canLay0], by simp [D.py, PyData.showable], by simp only [D.py, PyData.shown]; decide⟩
theorem rp_non : RP .non 4 := ⟨by simp [D.pl], by simp [D.py, PyData.depth], by simp [D.py, PyData.canLay0], by simp [D.py, PyData.showable], by simp only [D.py, PyData.shown]; decide⟩
theorem rps {m e : Nat} (he : e ≤ 59) : ∀ {xs : List D}, (∀ x ∈ xs, RP x m ∧ x.py.depth ≤ e) → D.pls xs = true ∧ PyData.depthAll (D.pys xs) ≤ e ∧ PyData.canLayAll0 (D.pys xs) = true ∧ PyData.showableAll (D.pys xs) = true ∧ ((PyData.shownAll (D.pys xs)).map (·.length)).sum ≤ m * xs.length ∧ (PyData.shownAll (D.pys xs)).length = xs.length
  | [], _ => ⟨by rw [D.pls], by rw [D.pys, PyData.depthAll]; exact Nat.zero_le _, by rw [D.pys, PyData.canLayAll0], by rw [D.pys, PyData.showableAll], by rw [D.pys, PyData.shownAll]; simp, by rw [D.pys, PyData.shownAll]; rfl⟩
  | x :: xs, h => by
    obtain ⟨h1, h2, h3, h4, h5, h6⟩ := rps he fun y hy => h y (List.mem_cons_of_mem _ hy)
    obtain ⟨g, gd⟩ := h x (List.mem_cons_self ..)
    refine ⟨by rw [D.pls, g.pl, h1]; rfl, ?_, by rw [D.pys, PyData.canLayAll0, g.cl, h3]; rfl, by rw [D.pys, PyData.showableAll, g.sh, h4]; rfl, ?_, ?_⟩
    · rw [D.pys, PyData.depthAll]; omega
    · rw [D.pys, PyData.shownAll, List.map_cons, List.sum_cons, List.length_cons, Nat.mul_succ]
      have := g.ln
      omega
    · rw [D.pys, PyData.shownAll, List.length_cons, List.length_cons, h6]
theorem rp_tup {m e : Nat} (he : e ≤ 59) {xs : List D} (h : ∀ x ∈ xs, RP x m ∧ x.py.depth ≤ e) : RP (.tuple xs) ((m + 2) * xs.length + 3) ∧ (D.tuple xs).py.depth ≤ e + 1 := by
  obtain ⟨h1, h2, h3, h4, h5, h6⟩ := rps he h
  refine ⟨⟨by rw [D.pl]; exact h1, by rw [D.py, PyData.depth]; omega, by rw [D.py, PyData.canLay0]; exact h3, by rw [D.py, PyData.showable]; exact h4, ?_⟩, by rw [D.py, PyData.depth]; omega⟩
  rw [D.py, PyData.shown]
  have := tupleText_len_le (PyData.shownAll (D.pys xs))
  rw [h6] at this
  have e2 : (m + 2) * xs.length = m * xs.length + 2 * xs.length := Nat.add_mul ..
  omega
theorem rp_ints {xs : List Int} (h : ∀ x ∈ xs, x.natAbs < 2 ^ 64) : RP (.tuple (xs.map D.int)) (67 * xs.length + 3) := by
  have := (rp_tup (m := 65) (e := 0) (by decide) (xs := xs.map D.int) fun x hx => by
    obtain ⟨i, hi, rfl⟩ := List.mem_map.mp hx
    exact ⟨rp_int (h i hi), by simp [D.py, PyData.depth]⟩).1
  rw [List.length_map] at this
  exact this
end DL

set_option Elab.async false
set_option linter.all false
set_option maxRecDepth 100000
set_option maxHeartbeats 4000000
namespace DL
open PySem PySem.Spec PyProof.Rows L2
variable [TabsC]
section
variable {X : Cx} {xw : XW}
def fdivA : W2 := intW CDivW fun a b => .int (a / b)
theorem od_fdivA : OpD X (binaryOp .FloorDiv) fdivA := od_intW op_fdivW fun _ _ _ _ => .int _
theorem RpAll.of_ints {α : Type} {K : PySem.W.Frag} {Hf Hh : Hp} (f : α → Int) : ∀ l : List α, RpAll K Hf Hh (l.map fun i => V.int (f i)) (l.map fun i => D.int (f i))
  | [] => .nil
  | x :: l => .cons (.int _) (RpAll.of_ints f l)
theorem rg_rp {K : PySem.W.Frag} {Hf Hh : Hp} (a b : Int) : RpAll K Hf Hh (rgV a b) (rgD a (b - a).toNat) := RpAll.of_ints (fun i : Nat => a + (i : Nat)) _
def lrg1W (f : WE) : WE := fun ρ K Xc => f ρ (fun d => match d with
  | .int j => (-4611686018427387904 ≤ j ∧ j ≤ 16777216) ∧ K (.list (rgD 0 j.toNat))
  | _ => False) Xc
def trg1W (f : WE) : WE := fun ρ K Xc => f ρ (fun d => match d with
  | .int j => (-4611686018427387904 ≤ j ∧ j ≤ 16777216) ∧ K (.tuple (rgD 0 j.toNat))
  | _ => False) Xc
def lrg2W (f g : WE) : WE := fun ρ K Xc => f ρ (fun d => g ρ (fun e => match d, e with
  | .int i, .int j => (-1000000000 ≤ i ∧ i ≤ 1000000000 ∧ -1000000000 ≤ j ∧ j - i ≤ 16777216) ∧ K (.list (rgD i (j - i).toNat))
  | _, _ => False) Xc) Xc
def trg2W (f g : WE) : WE := fun ρ K Xc => f ρ (fun d => g ρ (fun e => match d, e with
  | .int i, .int j => (-1000000000 ≤ i ∧ i ≤ 1000000000 ∧ -1000000000 ≤ j ∧ j - i ≤ 16777216) ∧ K (.tuple (rgD i (j - i).toNat))
  | _, _ => False) Xc) Xc
variable {p pos p2 pos2 : Pos} {a b : Expr} {f g : WE}
theorem fd_lrg1 (hc : X.calm = true) (hl : Gl X "list") (ml : X.mg "list" = none) (hr : Gl X "range") (mr : X.mg "range" = none) (ha : ED X xw a f)
    (na : starEach [.Call (.Name "range" p2) [a] [] pos2] X.env = (false, eval (.Call (.Name "range" p2) [a] [] pos2) X.env) :: starEach [] X.env := by rfl) (nb : starEach [a] X.env = (false, eval a X.env) :: starEach [] X.env := by rfl) :
    FD X xw (.Call (.Name "list" p) [.Call (.Name "range" p2) [a] [] pos2] [] pos) (lrg1W f) := by
  refine ⟨PE.imp (pe_listRg hc hl ml (prg_1 hr mr ha.pe nb) na) fun σ H Q ⟨Hf, Hh, Hx, ρ, P, S, q⟩ => ?_, fun ρ K1 K2 X1 X2 hk hx q => ha.mo _ _ _ _ _ (fun d q => ?_) hx q⟩
  · refine LE.at ha.mo P S q (fun d hd v H' Hf' Hh' T' P' R' => ?_) (fun c hc => hc)
    split at hd
    · cases R'
      obtain ⟨⟨h1, h2⟩, hd⟩ := hd
      refine ⟨_, rfl, ⟨by omega, by omega, by omega, by omega, by omega⟩, fun q hq => hd q _ H' Hf' Hh' T' P' hq ⟨_, rfl, by rw [rgV_length, sizeLine_eq]; omega, ?_⟩⟩
      rename_i j
      have := rg_rp (K := X.K) (Hf := Hf') (Hh := Hh') 0 j
      rw [Int.sub_zero] at this
      exact this
    · exact hd.elim
  · split at q
    · exact ⟨q.1, hk _ q.2⟩
    · exact q.elim
theorem fd_lrg2 (hc : X.calm = true) (hl : Gl X "list") (ml : X.mg "list" = none) (hr : Gl X "range") (mr : X.mg "range" = none) (ha : ED X xw a f) (hb : ED X xw b g)
    (na : starEach [.Call (.Name "range" p2) [a, b] [] pos2] X.env = (false, eval (.Call (.Name "range" p2) [a, b] [] pos2) X.env) :: starEach [] X.env := by rfl) (nb : starEach [a, b] X.env = (false, eval a X.env) :: starEach [b] X.env := by rfl) (nc : starEach [b] X.env = (false, eval b X.env) :: starEach [] X.env := by rfl) (hp : (backTo pos2 (starEach [b] X.env)).any (·.1) = false := by rfl) :
    FD X xw (.Call (.Name "list" p) [.Call (.Name "range" p2) [a, b] [] pos2] [] pos) (lrg2W f g) := by
  refine ⟨PE.imp (pe_listRg hc hl ml (prg_2 hr mr ha.pe hb.pe nb nc hp) na) fun σ H Q ⟨Hf, Hh, Hx, ρ, P, S, q⟩ => ?_, fun ρ K1 K2 X1 X2 hk hx q => ha.mo _ _ _ _ _ (fun d q => hb.mo _ _ _ _ _ (fun e q => ?_) hx q) hx q⟩
  · refine LE.at ha.mo P S q (fun d hd v H' Hf' Hh' T' P' R' => ?_) (fun c hc => hc)
    refine LE.at hb.mo P' (S.mono T') hd (fun e he v2 H2 Hf2 Hh2 T2 P2 R2 => ?_) (fun c hc => hc.tr T')
    split at he
    · cases R'; cases R2
      obtain ⟨⟨h1, h2, h3, h4⟩, he⟩ := he
      exact ⟨_, _, rfl, rfl, ⟨by omega, by omega, by omega, by omega, by omega⟩, fun q hq => he q _ H2 Hf2 Hh2 (T'.trans T2) P2 hq ⟨_, rfl, by rw [rgV_length, sizeLine_eq]; omega, rg_rp _ _⟩⟩
    · exact he.elim
  · split at q
    · exact ⟨q.1, hk _ q.2⟩
    · exact q.elim
theorem ed_trg1 (hc : X.calm = true) (hl : Gl X "tuple") (ml : X.mg "tuple" = none) (hr : Gl X "range") (mr : X.mg "range" = none) (ha : ED X xw a f)
    (na : starEach [.Call (.Name "range" p2) [a] [] pos2] X.env = (false, eval (.Call (.Name "range" p2) [a] [] pos2) X.env) :: starEach [] X.env := by rfl) (nb : starEach [a] X.env = (false, eval a X.env) :: starEach [] X.env := by rfl) :
    ED X xw (.Call (.Name "tuple" p) [.Call (.Name "range" p2) [a] [] pos2] [] pos) (trg1W f) := by
  refine ⟨PE.imp (pe_tupRgF hc hl ml (prg_1 hr mr ha.pe nb) na) fun σ H Q ⟨Hf, Hh, Hx, ρ, P, S, q⟩ => ?_, fun ρ K1 K2 X1 X2 hk hx q => ha.mo _ _ _ _ _ (fun d q => ?_) hx q⟩
  · refine LE.at ha.mo P S q (fun d hd v H' Hf' Hh' T' P' R' => ?_) (fun c hc => hc)
    split at hd
    · cases R'
      obtain ⟨⟨h1, h2⟩, hd⟩ := hd
      refine ⟨_, rfl, ⟨by omega, by omega, by omega, by omega, by omega⟩, ?_⟩
      rename_i j
      have := rg_rp (K := X.K) (Hf := Hf') (Hh := Hh') 0 j
      rw [Int.sub_zero] at this
      exact (hd.tr T').newT P' (by rw [rgV_length, sizeLine_eq]; omega) this
    · exact hd.elim
  · split at q
    · exact ⟨q.1, hk _ q.2⟩
    · exact q.elim
theorem ed_trg2 (hc : X.calm = true) (hl : Gl X "tuple") (ml : X.mg "tuple" = none) (hr : Gl X "range") (mr : X.mg "range" = none) (ha : ED X xw a f) (hb : ED X xw b g)
    (na : starEach [.Call (.Name "range" p2) [a, b] [] pos2] X.env = (false, eval (.Call (.Name "range" p2) [a, b] [] pos2) X.env) :: starEach [] X.env := by rfl) (nb : starEach [a, b] X.env = (false, eval a X.env) :: starEach [b] X.env := by rfl) (nc : starEach [b] X.env = (false, eval b X.env) :: starEach [] X.env := by rfl) (hp : (backTo pos2 (starEach [b] X.env)).any (·.1) = false := by rfl) :
    ED X xw (.Call (.Name "tuple" p) [.Call (.Name "range" p2) [a, b] [] pos2] [] pos) (trg2W f g) := by
  refine ⟨PE.imp (pe_tupRgF hc hl ml (prg_2 hr mr ha.pe hb.pe nb nc hp) na) fun σ H Q ⟨Hf, Hh, Hx, ρ, P, S, q⟩ => ?_, fun ρ K1 K2 X1 X2 hk hx q => ha.mo _ _ _ _ _ (fun d q => hb.mo _ _ _ _ _ (fun e q => ?_) hx q) hx q⟩
  · refine LE.at ha.mo P S q (fun d hd v H' Hf' Hh' T' P' R' => ?_) (fun c hc => hc)
    refine LE.at hb.mo P' (S.mono T') hd (fun e he v2 H2 Hf2 Hh2 T2 P2 R2 => ?_) (fun c hc => hc.tr T')
    split at he
    · cases R'; cases R2
      obtain ⟨⟨h1, h2, h3, h4⟩, he⟩ := he
      exact ⟨_, _, rfl, rfl, ⟨by omega, by omega, by omega, by omega, by omega⟩, (he.tr (T'.trans T2)).newT P2 (by rw [rgV_length, sizeLine_eq]; omega) (rg_rp _ _)⟩
    · exact he.elim
  · split at q
    · exact ⟨q.1, hk _ q.2⟩
    · exact q.elim
end
end DL

set_option Elab.async false
set_option linter.all false
set_option maxRecDepth 100000
set_option maxHeartbeats 4000000
namespace DL
open PySem PySem.Spec PyProof.Rows L2
variable [TabsC]
section
variable {X : Cx} {xw : XW}
def par3W (b : Bool) (i j l : Nat) (f : WA) : WS := fun ρ k => f (view b ρ) (fun ds => match ds with
  | [d, e, g] => (b = true → (d.flat && (e.flat && g.flat)) = true) ∧ k.nx (((ρ.set i (some (.fz d))).set j (some (.fz e))).set l (some (.fz g)))
  | _ => False) k.xc
theorem RpAll.three {K : PySem.W.Frag} {Hf Hh : Hp} {xs : List V} {d e g : D} (r : RpAll K Hf Hh xs [d, e, g]) : ∃ v u w, xs = [v, u, w] ∧ Rp K Hf Hh v d ∧ Rp K Hf Hh u e ∧ Rp K Hf Hh w g := by
  cases r with | cons a b => cases b with | cons c d => cases d with | cons e f => cases f; exact ⟨_, _, _, rfl, a, c, e⟩
theorem sd_par3 {i j l : Nat} {x y z : Str} {a c d : Expr} {f : WA} {px py pz pt : Pos} {kt k2 pt2} (b : Bool) (ha : AD X xw [a, c, d] f) {pos : Pos}
    (hp : ∀ t, PA X [a, c, d] t → PS X (.Assign [.Tuple [.Name x px, .Name y py, .Name z pz] kt pt] (.Tuple [a, c, d] k2 pt2) pos) (tPar3 i j l t)) : SD X xw (.Assign [.Tuple [.Name x px, .Name y py, .Name z pz] kt pt] (.Tuple [a, c, d] k2 pt2) pos) (par3W b i j l f) := by
  refine ⟨PS.imp (hp _ ha.pa) fun Dn σ H ⟨HxC, Hf, Hh, Hx, ρ, P, S, q⟩ => ?_, fun ρ k1 k2 l q => ha.mo _ _ _ _ _ (fun d q => ?_) (fun c q => l.xc _ q) q⟩
  · refine stA ha.mo b P S q (fun ds hd vs H' Hf2 Hh' t2 p2 s2 r => ?_) (fun c hc => hc)
    split at hd
    · rename_i d e g
      have r := r fun hb => by
        have := hd.1 hb
        rw [Bool.and_eq_true, Bool.and_eq_true] at this
        simp [D.flats, this.1, this.2.1, this.2.2]
      obtain ⟨v, u, w, rfl, r1, r2, r3⟩ := r.three
      exact ⟨v, u, w, rfl, hd.2 _ H' Hf2 Hh' Hx t2 p2 (((s2.put r1).put r2).put r3)⟩
    · exact hd.elim
  · split at q
    · exact ⟨q.1, l.nx _ q.2⟩
    · exact q.elim
theorem d_par3 (b : Bool) (i j l : Nat) {x y z : Str} {a c d : Expr} {f : WA} {px py pz pt : Pos} {kt k2 pt2} {pos : Pos} (hN : X.N.Nodup) (ha : AD X xw [a, c, d] f) (hc : X.calm = true := by rfl) (hi : X.N[i]? = some x := by rfl) (hj : X.N[j]? = some y := by rfl) (hl : X.N[l]? = some z := by rfl) (hij : i ≠ j := by decide) (hil : i ≠ l := by decide) (hjl : j ≠ l := by decide)
    (hx : X.env.scope.names.lookup x = some .local := by rfl) (hy : X.env.scope.names.lookup y = some .local := by rfl) (hz : X.env.scope.names.lookup z = some .local := by rfl)
    (hw : swappedStores [.Tuple [.Name x px, .Name y py, .Name z pz] kt pt] (.Tuple [a, c, d] k2 pt2) X.env = pure (some [x, y, z]) := by rfl)
    (hs : swapsWithSole [.Tuple [.Name x px, .Name y py, .Name z pz] kt pt] (.Tuple [a, c, d] k2 pt2) pos.line X.env = pure false := by rfl) :
    SD X xw (.Assign [.Tuple [.Name x px, .Name y py, .Name z pz] kt pt] (.Tuple [a, c, d] k2 pt2) pos) (par3W b i j l f) :=
  sd_par3 b ha fun t ht => ps_par3 hc hN hi hj hl hij hil hjl hx hy hz ht hw hs
end
end DL

set_option Elab.async false
set_option linter.all false
set_option maxRecDepth 100000
set_option maxHeartbeats 4000000
namespace DL
open PySem PySem.Spec PyProof.Rows L2
section
variable {X : Cx}
def rCntT (K : PySem.W.Frag) : V → List V → Hp → VK → Prop := fun x xs H Q => ∃ v d ds, xs = [v] ∧ Dp K H v d ∧ Dp K H x (.tuple ds) ∧ SeqAt.shaped (.tuple ds) = true ∧ SeqAt.shaped d = true ∧ Q (.int ((ds.countP fun z => PyData.eqv z d : Nat) : Int)) H
theorem count_by_data {h : Heap} {vs : Array Value} {xs : List PyData} {as : List Addr} {d : PyData} (rs : ReadsAll h vs.toList xs as) (hxs : PyData.canLayAll0 xs = true) :
    vs.toList.countP (fun y => PyData.eqv (SeqAt.readOf h y) d) = xs.countP (fun y => PyData.eqv y d) := by
  rw [← SeqAt.readsAll_map xs _ _ hxs rs, List.countP_map]
  rfl
theorem mt_tcount (hu : X.A.units + 65 < cLine) : MtR X "tuple.count" (rCntT X.K) := by
  intro pins s σ H x xs v us Q I rx rxs h
  obtain ⟨y, d, ds, rfl, hd, he, se, sd, q⟩ := h
  obtain ⟨u, rfl, ru⟩ := rxs.one
  obtain ⟨as, r1⟩ := Dp.reads I d y u hd ru
  obtain ⟨bs, r2⟩ := Dp.reads I (.tuple ds) x v he rx
  have hxs := SeqAt.canLay_of_shaped se
  have hds := SeqAt.canLay_of_shaped sd
  have hroom := room_in_shaped (A := X.A) (d := d) (xs := ds) sd hu
  cases r2 with | @tuple l o vs n _ _ h1 h2 h3 h4 =>
  obtain ⟨cls, dd, data, sl⟩ := o
  simp only at h2 h3
  subst h2 h3
  refine call_meets PySem.F.slot_tuple_count ⟨_, h1, rfl⟩ PySem.F.entry_tuple_count (PySem.F.args_tuple_count_2 _ _) (SeqAt.tuple_countAt l _ _ dd sl u _) ⟨h1, SeqAt.items_eqAt h4 r1 hxs hds hroom, ?_⟩
  refine ⟨.int _, H, I.tok _, ⟨s.toks, ?_⟩, q⟩
  rw [count_by_data h4 hxs]
end
end DL

set_option Elab.async false
set_option linter.all false
set_option maxRecDepth 100000
set_option maxHeartbeats 4000000
namespace L2
open PySem PySem.Spec PyProof.Rows
section
variable {X : Cx}
def tLenSetT (K : PySem.W.Frag) (ta : TE) : TE := fun σ H Q => ta σ H fun x H1 => ∃ (l : Addr) (ns : List Int), x = .ref l ∧ SqT K H1 l (ns.map V.int) ∧ ns.length ≤ 1000 ∧ ∀ out : List Int, out.Nodup → (∀ k, k ∈ out ↔ k ∈ ns) → Q (.int (out.length : Nat)) H1
theorem pe_lenSetT {a : Expr} {ta : TE} {p p2 q pos : Pos} (hc : X.calm = true) (hg : Gl X "len") (hm : X.mg "len" = none) (hg2 : Gl X "set") (hm2 : X.mg "set" = none) (ha : PE X a ta)
    (na : starEach [a] X.env = (false, eval a X.env) :: starEach [] X.env := by rfl) : PE X (.Call (.Name "len" p) [.Call (.Name "set" p2) [a] [] q] [] pos) (tLenSetT X.K ta) := by
  refine ⟨fun pins s σ H Q I h => ?_⟩
  refine Call_ (ld_blt I hg hm boot_len ?_)
  refine PyProof.Rows.callWith_builtin1 (PyProof.Rows.args_cons ?_ rfl) rfl rfl
  refine Call_ (ld_blt I hg2 hm2 boot_set ?_)
  refine PyProof.Rows.callWith_type1 (PyProof.Rows.args_cons (thn (ha.run pins s σ H _ I h) fun v s1 ⟨x, H1, I1, r1, q1⟩ => PyProof.Rows.args_nil ?_) na) na rfl
  obtain ⟨l, ns, rfl, hq, hl, q1⟩ := q1
  cases r1
  obtain ⟨its, rv, pt, hz⟩ := I1.tuple hq
  have hi : IntsAre its.toArray.toList ns := ints_of_vals rv
  refine call_set_tupI ns (I1.ok.hd hc) (show s1.heap.IsTuple l its.toArray from pt) hi (by unfold scanBound; omega) fun h' tk c R1 hcn k => ?_
  obtain ⟨o, es, ep, t, ho, hex, hdt, g, nd, hm2, hb, hf, hn, hr, hl2⟩ := R1
  refine PyProof.Rows.args_nil ?_
  have I2 : Inv X pins σ H1 { s1 with heap := h', toks := tk } := I1.kept k
  refine call_len_set ho hex hdt hf (by rw [hn]; omega) ⟨.int ((es.toList.map keyOf).length : Nat), H1, I2.tok _, ⟨tk + 1, by rw [List.length_map, Array.length_toList]⟩, q1 _ nd fun j => ?_⟩
  · rw [← hm2 j, decide_eq_true_iff]
end
end L2
namespace DL
open PySem PySem.Spec PyProof.Rows L2
variable [TabsC]
section
variable {X : Cx} {xw : XW}
def lenSetW (f : WE) : WE := fun ρ K Xc => f ρ (fun d => ∃ ns : List Int, d = .tuple (ns.map D.int) ∧ ns.length ≤ 1000 ∧ ∀ out : List Int, out.Nodup → (∀ k, k ∈ out ↔ k ∈ ns) → K (.int (out.length : Nat))) Xc
theorem ed_lenSet {a : Expr} {f : WE} {p p2 q pos : Pos} (hc : X.calm = true) (hg : Gl X "len") (hm : X.mg "len" = none) (hg2 : Gl X "set") (hm2 : X.mg "set" = none) (ha : ED X xw a f)
    (na : starEach [a] X.env = (false, eval a X.env) :: starEach [] X.env := by rfl) : ED X xw (.Call (.Name "len" p) [.Call (.Name "set" p2) [a] [] q] [] pos) (lenSetW f) := by
  refine ⟨PE.imp (pe_lenSetT hc hg hm hg2 hm2 ha.pe na) fun σ H Q ⟨Hf, Hh, Hx, ρ, P, S, q⟩ => ?_, fun ρ K1 K2 X1 X2 hk hx h => ha.mo _ _ _ _ _ (fun d ⟨ns, a, b, c⟩ => ⟨ns, a, b, fun out h1 h2 => hk _ (c out h1 h2)⟩) hx h⟩
  refine LE.at ha.mo P S q (fun d hd v H' Hf' Hh' T' P' R' => ?_) (fun c hc => hc)
  obtain ⟨ns, rfl, hl, hd⟩ := hd
  cases R' with | tuple s z r =>
  have := r.ints
  subst this
  exact ⟨_, ns, rfl, SqT.sub s P'.sub, hl, fun out h1 h2 => hd out h1 h2 _ H' Hf' Hh' T' P' (.int _)⟩
def minLW : W1 := fun ds K => match ds with
  | [.list xs] => ∃ ns : List Int, xs = ns.map D.int ∧ 0 < ns.length ∧ ∀ m, m ∈ ns → (∀ y, y ∈ ns → m ≤ y) → K (.int m)
  | _ => False
def maxLW : W1 := fun ds K => match ds with
  | [.list xs] => ∃ ns : List Int, xs = ns.map D.int ∧ 0 < ns.length ∧ ∀ m, m ∈ ns → (∀ y, y ∈ ns → y ≤ m) → K (.int m)
  | _ => False
theorem cd_minL (hc : X.calm = true) : CallD X (.builtin "min") minLW := by
  refine ⟨CallR.imp (cr_min hc) fun xs H Q ⟨Hf, Hh, Hx, ds, P, R, q⟩ => ?_, fun ds K1 K2 hk h => ?_⟩
  · unfold minLW at q
    split at q
    · obtain ⟨v, rfl, r⟩ := R.one
      obtain ⟨ns, rfl, hn, q⟩ := q
      cases r with | list e z r =>
      have := r.ints; subst this
      exact ⟨_, _, rfl, SqL.up e P.sub, hn, fun m h1 h2 => (q m h1 h2).now P (.int _)⟩
    · exact q.elim
  · unfold minLW at h ⊢
    split at h
    · obtain ⟨ns, e, hn, h⟩ := h; exact ⟨ns, e, hn, fun m h1 h2 => hk _ (h m h1 h2)⟩
    · exact h.elim
theorem cd_maxL (hc : X.calm = true) : CallD X (.builtin "max") maxLW := by
  refine ⟨CallR.imp (cr_max hc) fun xs H Q ⟨Hf, Hh, Hx, ds, P, R, q⟩ => ?_, fun ds K1 K2 hk h => ?_⟩
  · unfold maxLW at q
    split at q
    · obtain ⟨v, rfl, r⟩ := R.one
      obtain ⟨ns, rfl, hn, q⟩ := q
      cases r with | list e z r =>
      have := r.ints; subst this
      exact ⟨_, _, rfl, SqL.up e P.sub, hn, fun m h1 h2 => (q m h1 h2).now P (.int _)⟩
    · exact q.elim
  · unfold maxLW at h ⊢
    split at h
    · obtain ⟨ns, e, hn, h⟩ := h; exact ⟨ns, e, hn, fun m h1 h2 => hk _ (h m h1 h2)⟩
    · exact h.elim
end
end DL

set_option Elab.async false
set_option linter.all false
set_option maxRecDepth 100000
set_option maxHeartbeats 4000000
namespace DL
open PySem PySem.Spec PyProof.Rows L2
variable [TabsC]
section
variable {X : Cx}
def lenA : W1 := fun ds K => match ds with
  | [.dict false es] => K (.int es.length)
  | ds => lenW ds K
theorem cd_lenA : CallD X (.builtin "len") lenA := by
  refine ⟨CallR.imp (CallR.or call_lenD cd_len.cr) fun xs H Q ⟨Hf, Hh, Hx, ds, P, R, q⟩ => ?_, fun ds K1 K2 hk h => ?_⟩
  · unfold lenA at q
    split at q
    · rename_i es
      obtain ⟨v, rfl, r⟩ := R.one
      cases r with | @dK a kvs _ e z r =>
      have hl : es.length = kvs.length := by have := congrArg List.length z; simpa using this
      rw [hl] at q
      exact .inl ⟨_, _, rfl, P.sub _ _ e, q.now P (.int _)⟩
    · exact .inr ⟨Hf, Hh, Hx, ds, P, R, q⟩
  · unfold lenA at h ⊢
    split at h
    · exact hk _ h
    · exact (cd_len (X := X)).mo _ _ _ hk h
end
end DL

set_option Elab.async false
set_option linter.all false
set_option maxRecDepth 100000
set_option maxHeartbeats 4000000
namespace L2
open PySem PySem.Spec PyProof.Rows
section
variable {X : Cx} {o e : Expr} {es : List Expr} {to : TE} {t : TA} {name : Str} {apos cpos : Pos} {T id : String} {r : V → List V → Hp → VK → Prop}
/-- the value is of the built-in type T, without a dict -/
def tyF (K : PySem.W.Frag) (T : String) (x : V) (H : Hp) : Prop := ∃ p o, x = .ref p ∧ ((∃ u, H p = some (.frz o u)) ∨ K.lookup p = some o) ∧ o.cls = .type T ∧ o.dict = none
theorem tyF_is {pins : List (Addr × Obj)} {σ : St} {H : Hp} {s : Shared} {T : String} {x : V} {v : Value} (I : Inv X pins σ H s) (r : RelV x v) (ty : tyF X.K T x H) :
    s.TypeIs v T ∧ ∀ a, v = .ref a → ∃ ob, s.heap.get? a = some ob ∧ ob.dict = none := by
  obtain ⟨p, o, rfl, h, hc, hd⟩ := ty
  cases r
  have e : s.heap.get? p = some o := by
    rcases h with ⟨u, h⟩ | h
    · exact (I.hok p _ h).1
    · exact I.kIn p o h
  exact ⟨⟨o, e, hc⟩, fun a ea => by cases ea; exact ⟨o, e, hd⟩⟩
def tBMF (K : PySem.W.Frag) (T : String) (r : V → List V → Hp → VK → Prop) (to : TE) (t : TA) : TE := fun σ H Q => to σ H fun x H1 => tyF K T x H1 ∧ t σ H1 fun xs H2 => r x xs H2 Q
theorem pe_bmF (pa : PlainAttrs T) (slot : Slot T name id) (hty : typeOf (.builtin id) = pure (.type "method_descriptor")) (hm : MtR X id r) (ho : PE X o to) (ha : PA X (e :: es) t)
    (hbase : attributeBase o name X.env (eval o X.env) = eval o X.env := by rfl)
    (hfew : ((backTo cpos (starEach (e :: es) X.env)).all (fun x => !x.1) && (backToKw cpos (keywordEach [] X.env)).all (fun x => x.1.isSome) && decide ((e :: es).length + ([] : List Keyword).length + (if ([] : List Keyword).isEmpty then 0 else 1) < 30)) = true := by rfl)
    (hline : (apos.endLine == cpos.line) = true := by rfl) (hs : starEach (e :: es) X.env = (false, eval e X.env) :: starEach es X.env := by rfl) (hplain : (backTo cpos (starEach es X.env)).any (·.1) = false := by rfl) :
    PE X (.Call (.Attribute o name apos) (e :: es) [] cpos) (tBMF X.K T r to t) := ⟨fun pins s σ H Q I h => by
  refine wpAny_Call_method_late hbase hfew hline rfl (thn (ho.run pins s σ H _ I h) fun v s1 ⟨x, H1, I1, r1, ty, q1⟩ => ?_)
  obtain ⟨h1, h2⟩ := tyF_is I1 r1 ty
  refine ⟨T, id, pa, slot, hty, h1, h2, ?_⟩
  have hA := ha.run cpos pins s1 σ H1 _ I1 q1
  rw [hs] at hA ⊢
  refine Calls.callWith_builtin (by show (false || (backTo cpos (starEach es X.env)).any (·.1)) = false; rw [hplain] <;> rfl) (Calls.evalArgs_plain (thn hA fun us s2 ⟨vs, H2, I2, r2, q2⟩ => ?_))
  exact hm pins s2 σ H2 x vs v us Q I2 r1 r2 q2⟩
end
end L2
namespace DL
open PySem PySem.Spec PyProof.Rows L2
class KnOn [TabsC] : Prop where
  on : TabsC.kn = true
variable [TabsC]
section
variable {X : Cx} {xw : XW}
theorem pys_count (y : D) : ∀ ds : List D, ((D.pys ds).countP fun z => PyData.eqv z y.py) = ds.countP fun z => z.eqv y
  | [] => by rw [D.pys]; rfl
  | d :: ds => by
    rw [D.pys, List.countP_cons, List.countP_cons, pys_count y ds]
    rfl
/-- t.count(x) -/
def cntW (fo fe : WE) : WE := fun ρ K Xc => fo ρ (fun d => match d with
  | .tuple ds => fe ρ (fun y => ((D.tuple ds).cm = true ∧ y.cm = true) ∧ K (.int (ds.countP fun z => z.eqv y : Nat))) Xc
  | _ => False) Xc
theorem mono_cnt {fo fe : WE} (mo : MonoE fo) (me : MonoE fe) : MonoE (cntW fo fe) := fun ρ _ _ _ _ hk hx h => mo ρ _ _ _ _ (fun d h1 => by
  split at h1
  · exact me ρ _ _ _ _ (fun y h2 => ⟨h2.1, hk _ h2.2⟩) hx h1
  · exact h1.elim) hx h
theorem ed_count [KnOn] {o e : Expr} {fo fe : WE} {apos cpos : Pos} (ho : ED X xw o fo) (he : ED X xw e fe)
    (hp : ∀ t ta, PE X o t → PE X e ta → PE X (.Call (.Attribute o (Str.ofString "count") apos) [e] [] cpos) (tBMF X.K "tuple" (rCntT X.K) t (tCons ta tNil))) :
    ED X xw (.Call (.Attribute o (Str.ofString "count") apos) [e] [] cpos) (cntW fo fe) := by
  refine ⟨PE.imp (hp _ _ ho.pe he.pe) fun σ H Q ⟨Hf, Hh, Hx, ρ, P, S, q⟩ => ?_, mono_cnt ho.mo he.mo⟩
  refine LE.at ho.mo P S q (fun d hd v H1 Hf1 Hh1 T1 P1 R1 => ?_) (fun c hc => hc)
  split at hd
  · rename_i ds
    have kt : tyF X.K "tuple" v H1 := by
      cases R1 with
      | tuple e z r k =>
        rcases k KnOn.on with ⟨o, us, e, p⟩ | ⟨o, e, p⟩
        · exact ⟨_, o, rfl, .inl ⟨_, P1.sub _ _ e⟩, p.1, p.2⟩
        · exact ⟨_, o, rfl, .inr e, p.1, p.2⟩
    refine ⟨kt, LE.at he.mo P1 (S.mono T1) hd (fun y hy u H2 Hf2 Hh2 T2 P2 R2 => ?_) (fun c hc => hc.tr T1)⟩
    obtain ⟨⟨c1, c2⟩, hy⟩ := hy
    unfold D.cm at c1 c2
    rw [Bool.and_eq_true] at c1 c2
    have R1' := R1.mono T2
    refine ⟨u, y.py, D.pys ds, rfl, R2.dp P2.sub c2.1, ?_, ?_, c2.2, ?_⟩
    · have := R1'.dp P2.sub c1.1
      rw [D.py] at this
      exact this
    · have := c1.2
      rw [D.py] at this
      exact this
    · rw [pys_count]
      exact (hy.tr (T1.trans T2)).now P2 (.int _)
  · exact hd.elim
end
end DL

set_option Elab.async false
set_option linter.all false
set_option maxRecDepth 100000
set_option maxHeartbeats 4000000
namespace DL
open PySem PySem.Spec PyProof.Rows L2
variable [TabsC]
section
variable {X : Cx} {xw : XW}
/-- name = what is made: frozen at once -/
def asgFW (b : Bool) (i : Nat) (f : WE) : WS := fun ρ k => f (view b ρ) (fun d => (b = true → d.flatIn = true) ∧ k.nx (ρ.set i (some (.fz d)))) k.xc
theorem mono_asgF {b : Bool} {i : Nat} {f : WE} (m : MonoE f) : MonoSt (asgFW b i f) := fun ρ k1 k2 l q => m _ _ _ _ _ (fun d q => ⟨q.1, l.nx _ q.2⟩) (fun c q => l.xc _ q) q
theorem asgF_imp {b : Bool} {i : Nat} {f : WE} {K : PySem.W.Frag} (m : MonoE f) (Dn : Ends) (σ : St) (H : Hp) (q : LS K xw (asgFW b i f) Dn σ H) : LF K xw f σ H (fun x H1 => Dn.nx (σ.set i (some x)) H1) := by
  obtain ⟨HxC, Hf, Hh, Hx, ρ, P, S, q⟩ := q
  refine stF m b P S q (fun d hd p o H' Hf2 Hh' t2 p2 hp s2 r => ?_) (fun c hc => hc)
  have t3 := tr_new (Hh := Hh') (o := o) (p2.fresh hp).1
  have R := r hd.1
  exact hd.2 _ _ _ Hh' _ (t2.trans t3) (p2.newF hp R.noB) ((s2.mono t3).put ((R.mono t3).rp upd_same))
theorem d_setF (b : Bool) (i : Nat) {x : Str} {e : Expr} {f : WE} {pos pos' : Pos} (hN : X.N.Nodup) (he : FD X xw e f) (hi : X.N[i]? = some x := by rfl) (hx : Loc X.env.scope x := by first | exact .inl rfl | exact .inr rfl) (hs : swapsWith e (some (.Name x pos')) pos.line X.env = pure false := by rfl)
    (hf : X.fn x = true ∨ X.env.scope.names.lookup x = some .local := by first | exact .inl rfl | exact .inr rfl) : SD X xw (.Assign [.Name x pos'] e pos) (asgFW b i f) :=
  ⟨PS.imp (ps_set hN hi hx he.pe hs hf) fun Dn σ H q => asgF_imp he.mo Dn σ H q, mono_asgF he.mo⟩
theorem d_setFLc (b : Bool) (i : Nat) {y : Str} {py : Pos} {elt tg iter : Expr} {ifs : List Expr} {scope : Scope} {own : List (Str × Nat)} {pos spos : Pos} {T : Tgt} {g : TG} {src : WA} {tst : WT} {f : WE} (hc : X.calm = true) (hN : X.N.Nodup) (hi : ID X xw tg iter src) (ok : BlkOk X.N X.env.scope scope own)
    (hT : ∀ i ∈ T.slots, i ∈ own.map (·.2))
    (hg : ∀ (s : Shared) (H : Hp) (C : Addr) (cl : List (Str × Addr)) (fp : List Addr), GD (X.blk s H scope (compEnvC scope cl C X.env) fp) tg T g) (ht : ∀ (s : Shared) (H : Hp) (C : Addr) (cl : List (Str × Addr)) (fp : List Addr), TsD (X.blk s H scope (compEnvC scope cl C X.env) fp) noX ifs tst)
    (he : ∀ (s : Shared) (H : Hp) (C : Addr) (cl : List (Str × Addr)) (fp : List Addr), ED (X.blk s H scope (compEnvC scope cl C X.env) fp) noX elt f) (hs : ∀ x, foldedSetIterable iter X.env x = pure x := by intro _; rfl)
    (hy : X.N[i]? = some y := by rfl) (hyl : X.env.scope.names.lookup y = some .local := by rfl) (hsw : swapsWith (.ListComp elt [⟨tg, iter, ifs, 0⟩] scope pos) (some (.Name y py)) spos.line X.env = pure true := by exact sw_true rfl rfl rfl (by decide +kernel)) :
    SD X xw (.Assign [.Name y py] (.ListComp elt [⟨tg, iter, ifs, 0⟩] scope pos) spos) (asgFW b i (compW (own.map (·.2)) T src tst f)) := by
  have mt := (ht X.s_0 (fun _ => none) 0 [] []).mo
  have me := (he X.s_0 (fun _ => none) 0 [] []).mo
  have m := mono_comp (vs := own.map (·.2)) (T := T) hi.mo mt me
  refine ⟨PS.imp (ps_setLc (tt := LT X.K noX tst) (te := LE X.K noX f) hc hN hy hyl hsw hi.pi ok (fun s H C cl fp => (hg s H C cl fp).pg) (fun s H C cl fp => (ht s H C cl fp).pt) (fun s H C cl fp => (he s H C cl fp).pe) hs) fun Dn σ H q => ?_, mono_asgF m⟩
  exact comp_imp hi.mo mt me hT (hg X.s_0 (fun _ => none) 0 [] []).st σ H _ (asgF_imp m Dn σ H q)
/-- x[e1] = what is made -/
def setFW (b : Bool) (i : Nat) (fv fi : WE) : WS := fun ρ k => ownL ρ i fun ds => fv (view b ρ) (fun d => (b = true → d.flatIn = true) ∧ fi (view b ρ) (fun j => match j with
  | .int j => ∃ n, ixN ds.length j = some n ∧ k.nx (ρ.set i (some (.own (.list (ds.set n d)))))
  | _ => False) k.xc) k.xc
theorem sd_setF {i : Nat} {x : Str} {e1 e2 : Expr} {fv fi : WE} {np spos pos : Pos} (b : Bool) (hv : FD X xw e2 fv) (hi : ED X xw e1 fi) (hN : X.N[i]? = some x := by rfl) (hvis : Vis X.env.scope x := by first | exact Or.inl rfl | exact Or.inr (Or.inl rfl) | exact Or.inr (Or.inr rfl))
    (hd : (x == ("__debug__" : Str)) = false := by decide) (hcd : (x == ("__classdict__" : Str)) = false := by decide)
    (hp : ∀ t ti, PE X e2 t → PE X e1 ti → PS X (.Assign [.Subscript (.Name x np) e1 spos] e2 pos) (tAsg t (gSub (tVar i) ti rSetL)) := by
      exact fun t ti ht hti => ps_asg ht (pg_sub (pv _) hti set_list)) :
    SD X xw (.Assign [.Subscript (.Name x np) e1 spos] e2 pos) (setFW b i fv fi) := by
  refine ⟨PS.imp (hp _ _ hv.pe hi.pe) fun Dn σ H ⟨HxC, Hf, Hh, Hx, ρ, P, S, q⟩ => ?_, fun ρ k1 k2 l q => ownL_mono (fun ds q => hv.mo _ _ _ _ _ (fun v q => ⟨q.1, hi.mo _ _ _ _ _ (fun j q => ?_) (fun c q => l.xc _ q) q.2⟩) (fun c q => l.xc _ q) q) q⟩
  · unfold setFW ownL at q
    split at q
    · rename_i ds eo
      refine stF hv.mo b P S q (fun d hd p o H0 Hf0 Hh0 t0 p0 hp0 s0 rv => ?_) (fun c hc => hc)
      have t3 := tr_new (Hh := Hh0) (o := o) (p0.fresh hp0).1
      have R := rv hd.1
      have t1 := t0.trans t3
      have p1 := p0.newF hp0 R.noB
      have s1 := s0.mono t3
      have R1 := (R.mono t3).rp upd_same
      obtain ⟨a, vs, h1, h2, h3, z, r⟩ := ss_own s1 eo
      refine ⟨.ref a, h1, ?_⟩
      refine stE hi.mo b p1 s1 hd.2 (fun j hj u H2 Hf2 Hh2 t2 p2 s2 rj => ?_) (fun c hc => hc.tr t1)
      split at hj
      · rename_i j
        obtain ⟨n, hn, hj⟩ := hj
        have rj := rj fun _ => rfl
        cases rj
        refine ⟨a, vs, j, n, rfl, rfl, (p2.x a _ h2).1, by rw [r.length]; exact hn, ?_⟩
        exact hj _ _ Hf2 Hh2 _ (t1.trans t2) (p2.setX h2) (s2.mut eo h1 h3 ⟨vs.set n (.ref p), rfl, by rw [List.length_set]; exact z, (r.mono t2).set n (R1.mono t2)⟩)
      · exact hj.elim
    · exact q.elim
  · split at q
    · obtain ⟨n, e, q2⟩ := q; exact ⟨n, e, l.nx _ q2⟩
    · exact q.elim
/-- x[e1], x[e2] = x[e3], x[e4], x an owned list -/
def swpW (b : Bool) (i : Nat) (f1 f2 f3 f4 : WE) : WS := fun ρ k => ownL ρ i fun ds => f3 (view b ρ) (fun j3 => match j3 with
  | .int j3 => ∃ d, L2.atI ds j3 = some d ∧ f4 (view b ρ) (fun j4 => match j4 with
    | .int j4 => ∃ e, L2.atI ds j4 = some e ∧ f1 (view b ρ) (fun j1 => match j1 with
      | .int j1 => ∃ n1, ixN ds.length j1 = some n1 ∧ f2 (view b (ρ.set i (some (.own (.list (ds.set n1 d)))))) (fun j2 => match j2 with
        | .int j2 => ∃ n2, ixN ds.length j2 = some n2 ∧ k.nx (ρ.set i (some (.own (.list ((ds.set n1 d).set n2 e)))))
        | _ => False) k.xc
      | _ => False) k.xc
    | _ => False) k.xc
  | _ => False) k.xc
theorem sd_swp {i : Nat} {x : Str} {e1 e2 e3 e4 : Expr} {f1 f2 f3 f4 : WE} {n1 n2 n3 n4 s1 s2 s3 s4 pt pt2 pos : Pos} {kt k2} (b : Bool) (hc : X.calm = true) (h1 : ED X xw e1 f1) (h2 : ED X xw e2 f2) (h3 : ED X xw e3 f3) (h4 : ED X xw e4 f4) (hN : X.N[i]? = some x := by rfl) (hvis : Vis X.env.scope x := by first | exact Or.inl rfl | exact Or.inr (Or.inl rfl) | exact Or.inr (Or.inr rfl))
    (hd : (x == ("__debug__" : Str)) = false := by decide) (hcd : (x == ("__classdict__" : Str)) = false := by decide)
    (hp : ∀ t1 t2 t3 t4, PE X e1 t1 → PE X e2 t2 → PE X e3 t3 → PE X e4 t4 → PS X (.Assign [.Tuple [.Subscript (.Name x n1) e1 s1, .Subscript (.Name x n2) e2 s2] kt pt] (.Tuple [.Subscript (.Name x n3) e3 s3, .Subscript (.Name x n4) e4 s4] k2 pt2) pos)
      (tAsg (tTup (tCons (tOp (rIx X.K) (tVar i) t3) (tCons (tOp (rIx X.K) (tVar i) t4) tNil))) (gTup X.K 2 (gCons (gSub (tVar i) t1 rSetL) (gCons (gSub (tVar i) t2 rSetL) gNil)))) := by
      exact fun t1 t2 t3 t4 g1 g2 g3 g4 => ps_asg (pe_tup (pa_cons (pe_ix ix_seq (pv _) g3 (fun _ _ => rfl)) (pa_cons (pe_ix ix_seq (pv _) g4 (fun _ _ => rfl)) pa_nil))) (pg_tup rfl (pgs_cons (pg_sub (pv _) g1 set_list) (pgs_cons (pg_sub (pv _) g2 set_list) pgs_nil)))) :
    SD X xw (.Assign [.Tuple [.Subscript (.Name x n1) e1 s1, .Subscript (.Name x n2) e2 s2] kt pt] (.Tuple [.Subscript (.Name x n3) e3 s3, .Subscript (.Name x n4) e4 s4] k2 pt2) pos) (swpW b i f1 f2 f3 f4) := by
  refine ⟨PS.imp (hp _ _ _ _ h1.pe h2.pe h3.pe h4.pe) fun Dn σ H ⟨HxC, Hf, Hh, Hx, ρ, P, S, q⟩ => ?_, fun ρ k1 k2 l q => ownL_mono (fun ds q => h3.mo _ _ _ _ _ (fun j3 q => ?_) (fun c q => l.xc _ q) q) q⟩
  · unfold swpW ownL at q
    split at q
    · rename_i ds eo
      obtain ⟨a, vs, z1, z2, z3, zl, r0⟩ := ss_own S eo
      refine ⟨.ref a, z1, ?_⟩
      refine stE h3.mo b P S q (fun j3 q v3 H3 Hf3 Hh3 t3 p3 s3 g3 => ?_) (fun c hc => hc)
      have tr0 := t3
      split at q
      · rename_i j3
        have g3 := g3 fun _ => rfl
        cases g3
        obtain ⟨d, ed, q⟩ := q
        obtain ⟨v, ev, rv⟩ := r0.atI ed
        refine .inl ⟨a, vs, j3, v, rfl, rfl, SqL.of (p3.x a _ z2).1, ev, ⟨.ref a, z1, ?_⟩⟩
        refine stE h4.mo b p3 s3 q (fun j4 q v4 H4 Hf4 Hh4 t4 p4 s4 g4 => ?_) (fun c hc => hc.tr t3)
        split at q
        · rename_i j4
          have g4 := g4 fun _ => rfl
          cases g4
          obtain ⟨e, ee, q⟩ := q
          obtain ⟨w, ew, rw'⟩ := r0.atI ee
          refine .inl ⟨a, vs, j4, w, rfl, rfl, SqL.of (p4.x a _ z2).1, ew, by show 2 ≤ sizeLine; rw [sizeLine_eq]; decide, fun p hp => ?_⟩
          have t5 := tr_new (Hh := Hh4) (o := HO.tup [v, w]) (p4.fresh hp).1
          refine ⟨p, [v, w], rfl, SqT.of upd_same, rfl, v, [w], rfl, .ref a, z1, ?_⟩
          refine stE h1.mo b (p4.newF hp) (s4.mono t5) q (fun j1 q v1 H6 Hf6 Hh6 t6 p6 s6 g6 => ?_) (fun c hc => hc.tr (t3.trans (t4.trans t5)))
          split at q
          · rename_i j1
            have g6 := g6 fun _ => rfl
            cases g6
            obtain ⟨m1, em1, q⟩ := q
            have tt := t3.trans (t4.trans (t5.trans t6))
            refine ⟨a, vs, j1, m1, rfl, rfl, (p6.x a _ z2).1, by rw [r0.length]; exact em1, w, [], rfl, ?_⟩
            have r1 := (r0.mono tt).set m1 (rv.mono tt)
            have s7 := s6.mut eo z1 z3 (o := .lst (vs.set m1 v)) (d := .list (ds.set m1 d)) ⟨vs.set m1 v, rfl, by rw [List.length_set]; exact zl, r1⟩
            have eo7 : (ρ.set i (some (.own (.list (ds.set m1 d)))))[i]? = some (some (.own (.list (ds.set m1 d)))) := by
              rw [List.getElem?_set_self]
              rcases Nat.lt_or_ge i ρ.length with h | h
              · exact h
              · rw [List.getElem?_eq_none h] at eo; cases eo
            refine ⟨.ref a, z1, ?_⟩
            refine stE h2.mo b (p6.setX z2) s7 q (fun j2 q v2 H8 Hf8 Hh8 t8 p8 s8 g8 => ?_) (fun c hc => hc.tr tt)
            split at q
            · rename_i j2
              have g8 := g8 fun _ => rfl
              cases g8
              obtain ⟨m2, em2, q⟩ := q
              refine ⟨a, vs.set m1 v, j2, m2, rfl, rfl, (p8.x a _ upd_same).1, by rw [List.length_set, r0.length]; exact em2, ?_⟩
              have s9 := s8.mut eo7 z1 z3 (o := .lst ((vs.set m1 v).set m2 w)) (d := .list ((ds.set m1 d).set m2 e)) ⟨_, rfl, by rw [List.length_set, List.length_set]; exact zl, (r1.mono t8).set m2 (rw'.mono (tt.trans t8))⟩
              rw [List.set_set] at s9
              exact ⟨rfl, q _ _ Hf8 Hh8 _ (tt.trans t8) (p8.setX upd_same) s9⟩
            · exact q.elim
          · exact q.elim
        · exact q.elim
      · exact q.elim
    · exact q.elim
  · split at q
    · obtain ⟨d, ed, q⟩ := q
      refine ⟨d, ed, h4.mo _ _ _ _ _ (fun j4 q => ?_) (fun c q => l.xc _ q) q⟩
      split at q
      · obtain ⟨e, ee, q⟩ := q
        refine ⟨e, ee, h1.mo _ _ _ _ _ (fun j1 q => ?_) (fun c q => l.xc _ q) q⟩
        split at q
        · obtain ⟨m1, em, q⟩ := q
          refine ⟨m1, em, h2.mo _ _ _ _ _ (fun j2 q => ?_) (fun c q => l.xc _ q) q⟩
          split at q
          · obtain ⟨m2, em, q⟩ := q; exact ⟨m2, em, l.nx _ q⟩
          · exact q.elim
        · exact q.elim
      · exact q.elim
    · exact q.elim
end
end DL

set_option Elab.async false
set_option linter.all false
set_option maxRecDepth 100000
set_option maxHeartbeats 4000000
namespace DL
open PySem PySem.Spec PyProof.Rows L2
variable {K : PySem.W.Frag} {mg : Str → Option Value} {h : Heap}
def exmB (K : PySem.W.Frag) (pn : String) (names : List String) : Bool :=
  (names.all fun c => decide (PySem.W.exmOne K (.ref (CAf K c)) (.ref (CAf K pn)) = some true)) &&
  (names.all fun c => names.all fun n => decide (PySem.W.exmOne K (.ref (CAf K c)) (.ref (CAf K n)) = some (decide (n = c))))
theorem excM_of (X : K.In h) (G : h.Ns mainGlobals mg) {pn : String} {names : List String} (gp : (He.Fa.glo (Str.ofString pn)).ok K = true) (gn : ∀ n ∈ names, (He.Fa.glo (Str.ofString n)).ok K = true) (e : exmB K pn names = true) : ExcM K mg (CAf K) pn names names := by
  obtain ⟨e3, e4⟩ := Bool.and_eq_true_iff.mp e
  exact ⟨He.glo_ok X G gp, fun n hn => He.glo_ok X G (gn n hn), fun c hc => of_decide_eq_true (List.all_eq_true.mp e3 c hc), fun c hc n hn => of_decide_eq_true (List.all_eq_true.mp (List.all_eq_true.mp e4 c hc) n hn)⟩
/-- .. a def that is called by another name -/
theorem dfn_okA [TabsC] {P : Program} {w : World} {base : Heap} {CA : String → Addr} {x y qual : Str} {st : Stmt} {f : Addr} {fd : FuncData} {N ps : List Str} {k : Nat} {S : SF} {W : WS} (F : Fun K y qual st f fd) (Sc : FnScope N ps (defScope st)) (hm : mg x = some (.ref f)) (hb : Binds K fd ps []) (mo : MonoS S)
    (len : ∀ ds Kr Kx, S ds Kr Kx → ds.length = ps.length)
    (der : ∀ (cdv : Value) (A : Around) (outer : List Env) (s : Shared) (H : Hp) (E : XK), Room k (A.deeper (envOfC qual (defScope st) s.heap.objs.size f cdv)) →
      Ctx (cxOf (L2.CX P w) P w K mg base N qual (defScope st) f cdv A outer s H E) CA (XWof CA E) → SDs (cxOf (L2.CX P w) P w K mg base N qual (defScope st) f cdv A outer s H E) (XWof CA E) (defBody st) W)
    (rd : ∀ ds Kr Kx, S ds Kr Kx → W (startE N ds) ⟨fun _ => Kr .non, Kr, fun _ => False, fun _ => False, Kx⟩) : DFn P w K mg base CA (k + 1) x S :=
  ⟨⟨f, fd, ps, fnok_of F Sc len der rd, hm, F.kp, hb⟩, mo⟩
end DL

set_option Elab.async false
set_option linter.all false
set_option maxRecDepth 100000
set_option maxHeartbeats 4000000
namespace DL
open PySem PySem.Spec PyProof.Rows L2
theorem revW_a (f : WE) (ρ : Env') (K : D → Prop) (Xc : String → Prop) : revW f ρ K Xc = (f ρ (@Hold _ ⟨fun d => match d with
  | .list xs => K (.list xs.reverse)
  | .tuple xs => K (.tuple xs.reverse)
  | _ => False⟩) Xc) := rfl
theorem setIW_a (b : Bool) (i : Nat) (fv fi : WE) (ρ : SEnv) (k : SK) : setIW b i fv fi ρ k = (ownL ρ i <| @Hold _ ⟨fun ds => fv (view b ρ) (@Hold _ ⟨fun v => fi (view b ρ) (@Hold _ ⟨fun j => match j with
  | .int j => ∃ n, ixN ds.length j = some n ∧ (b = true → v.flat = true) ∧ k.nx (ρ.set i (some (.own (.list (ds.set n v)))))
  | _ => False⟩) k.xc⟩) k.xc⟩) := rfl
theorem augW_a (b : Bool) (i : Nat) (g : Int → Int → Int) (f : WE) (ρ : SEnv) (k : SK) : augW b i g f ρ k = (match ρ[i]? with
  | some (some (.fz (.int a))) => f (view b ρ) (@Hold _ ⟨fun d => match d with
    | .int c => k.nx (ρ.set i (some (.fz (.int (g a c)))))
    | _ => False⟩) k.xc
  | _ => False) := rfl
theorem popW_a (i : Nat) (ρ : SEnv) (k : SK) : popW i ρ k = (ownL ρ i <| @Hold _ ⟨fun ds => ds ≠ [] ∧ k.nx (ρ.set i (some (.own (.list ds.dropLast))))⟩) := rfl
theorem appPopW_a (b : Bool) (i j : Nat) (f : WE) (ρ : SEnv) (k : SK) : appPopW b i j f ρ k = (ownL ρ i <| @Hold _ ⟨fun ds => ownL ρ j <| @Hold _ ⟨fun es => f (view b ρ) (@Hold _ ⟨fun d => match d with
  | .int m => ∃ n y, (-(2 ^ 63) ≤ m ∧ m < 2 ^ 63) ∧ seqIndex? m es.length = some n ∧ es[n]? = some y ∧ ds.length < 16777216 ∧ k.nx ((ρ.set j (some (.own (.list (es.eraseIdx n))))).set i (some (.own (.list (ds ++ [y])))))
  | _ => False⟩) k.xc⟩⟩) := rfl
theorem parOW_a (b : Bool) (i j : Nat) (f g : WE) (ρ : SEnv) (k : SK) : parOW b i j f g ρ k = (f (view b ρ) (@Hold _ ⟨fun d => (b = true → d.flatIn = true) ∧ g (view b ρ) (@Hold _ ⟨fun e => (b = true → e.flat = true) ∧ k.nx ((ρ.set i (some (.own d))).set j (some (.fz e)))⟩) k.xc⟩) k.xc) := rfl
theorem parOOW_a (b : Bool) (i j : Nat) (f g : WE) (ρ : SEnv) (k : SK) : parOOW b i j f g ρ k = (f (view b ρ) (@Hold _ ⟨fun d => (b = true → d.flatIn = true) ∧ g (view b ρ) (@Hold _ ⟨fun e => (b = true → e.flatIn = true) ∧ k.nx ((ρ.set i (some (.own d))).set j (some (.own e)))⟩) k.xc⟩) k.xc) := rfl
theorem updW_a (b : Bool) (i : Nat) (f : WE) (ρ : SEnv) (k : SK) : updW b i f ρ k = (∃ kvs, ρ[i]? = some (some (.own (encK kvs))) ∧ f (view b ρ) (@Hold _ ⟨fun d => ∃ more, d = encK more ∧ (b = true → d.flatIn = true) ∧ kvs.length + more.length ≤ 16777216 ∧ k.nx (ρ.set i (some (.own (encK (mergeD kvs more)))))⟩) k.xc) := rfl
theorem dcW_a (vs : List Nat) (T : Tgt) (src : WA) (tst : WT) (ke ve : WE) (ρ : Env') (K : D → Prop) (Xc : String → Prop) : dcW vs T src tst ke ve ρ K Xc = (src ρ (@Hold _ ⟨fun ds => loopD (wipeD ρ vs) T tst ke ve ds [] (@Hold _ ⟨fun acc => K (encK acc)⟩)⟩) Xc) := rfl
theorem enumA_a (f : WA) (ρ : Env') (K : List D → Prop) (Xc : String → Prop) : enumA f ρ K Xc = (f ρ (@Hold _ ⟨fun ds => match ds with
  | [.list xs] => K (enumD xs)
  | [.tuple xs] => K (enumD xs)
  | _ => False⟩) Xc) := rfl
theorem lrg1W_a (f : WE) (ρ : Env') (K : D → Prop) (Xc : String → Prop) : lrg1W f ρ K Xc = (f ρ (@Hold _ ⟨fun d => match d with
  | .int j => (-4611686018427387904 ≤ j ∧ j ≤ 16777216) ∧ K (.list (rgD 0 j.toNat))
  | _ => False⟩) Xc) := rfl
theorem trg1W_a (f : WE) (ρ : Env') (K : D → Prop) (Xc : String → Prop) : trg1W f ρ K Xc = (f ρ (@Hold _ ⟨fun d => match d with
  | .int j => (-4611686018427387904 ≤ j ∧ j ≤ 16777216) ∧ K (.tuple (rgD 0 j.toNat))
  | _ => False⟩) Xc) := rfl
theorem lrg2W_a (f g : WE) (ρ : Env') (K : D → Prop) (Xc : String → Prop) : lrg2W f g ρ K Xc = (f ρ (@Hold _ ⟨fun d => g ρ (@Hold _ ⟨fun e => match d, e with
  | .int i, .int j => (-1000000000 ≤ i ∧ i ≤ 1000000000 ∧ -1000000000 ≤ j ∧ j - i ≤ 16777216) ∧ K (.list (rgD i (j - i).toNat))
  | _, _ => False⟩) Xc⟩) Xc) := rfl
theorem trg2W_a (f g : WE) (ρ : Env') (K : D → Prop) (Xc : String → Prop) : trg2W f g ρ K Xc = (f ρ (@Hold _ ⟨fun d => g ρ (@Hold _ ⟨fun e => match d, e with
  | .int i, .int j => (-1000000000 ≤ i ∧ i ≤ 1000000000 ∧ -1000000000 ≤ j ∧ j - i ≤ 16777216) ∧ K (.tuple (rgD i (j - i).toNat))
  | _, _ => False⟩) Xc⟩) Xc) := rfl
theorem par3W_a (b : Bool) (i j l : Nat) (f : WA) (ρ : SEnv) (k : SK) : par3W b i j l f ρ k = (f (view b ρ) (@Hold _ ⟨fun ds => match ds with
  | [d, e, g] => (b = true → (d.flat && (e.flat && g.flat)) = true) ∧ k.nx (((ρ.set i (some (.fz d))).set j (some (.fz e))).set l (some (.fz g)))
  | _ => False⟩) k.xc) := rfl
theorem lenSetW_a (f : WE) (ρ : Env') (K : D → Prop) (Xc : String → Prop) : lenSetW f ρ K Xc = (f ρ (@Hold _ ⟨fun d => ∃ ns : List Int, d = .tuple (ns.map D.int) ∧ ns.length ≤ 1000 ∧ ∀ out : List Int, out.Nodup → (∀ k, k ∈ out ↔ k ∈ ns) → K (.int (out.length : Nat))⟩) Xc) := rfl
theorem asgFW_a (b : Bool) (i : Nat) (f : WE) (ρ : SEnv) (k : SK) : asgFW b i f ρ k = (f (view b ρ) (@Hold _ ⟨fun d => (b = true → d.flatIn = true) ∧ k.nx (ρ.set i (some (.fz d)))⟩) k.xc) := rfl
theorem setFW_a (b : Bool) (i : Nat) (fv fi : WE) (ρ : SEnv) (k : SK) : setFW b i fv fi ρ k = (ownL ρ i <| @Hold _ ⟨fun ds => fv (view b ρ) (@Hold _ ⟨fun d => (b = true → d.flatIn = true) ∧ fi (view b ρ) (@Hold _ ⟨fun j => match j with
  | .int j => ∃ n, ixN ds.length j = some n ∧ k.nx (ρ.set i (some (.own (.list (ds.set n d)))))
  | _ => False⟩) k.xc⟩) k.xc⟩) := rfl
theorem swpW_a (b : Bool) (i : Nat) (f1 f2 f3 f4 : WE) (ρ : SEnv) (k : SK) : swpW b i f1 f2 f3 f4 ρ k = (ownL ρ i <| @Hold _ ⟨fun ds => f3 (view b ρ) (@Hold _ ⟨fun j3 => match j3 with
  | .int j3 => ∃ d, L2.atI ds j3 = some d ∧ f4 (view b ρ) (@Hold _ ⟨fun j4 => match j4 with
    | .int j4 => ∃ e, L2.atI ds j4 = some e ∧ f1 (view b ρ) (@Hold _ ⟨fun j1 => match j1 with
      | .int j1 => ∃ n1, ixN ds.length j1 = some n1 ∧ f2 (view b (ρ.set i (some (.own (.list (ds.set n1 d)))))) (@Hold _ ⟨fun j2 => match j2 with
        | .int j2 => ∃ n2, ixN ds.length j2 = some n2 ∧ k.nx (ρ.set i (some (.own (.list ((ds.set n1 d).set n2 e)))))
        | _ => False⟩) k.xc
      | _ => False⟩) k.xc
    | _ => False⟩) k.xc
  | _ => False⟩) k.xc⟩) := rfl
theorem cntW_a [TabsC] (fo fe : WE) (ρ : Env') (K : D → Prop) (Xc : String → Prop) : cntW fo fe ρ K Xc = (fo ρ (@Hold _ ⟨fun d => match d with
  | .tuple ds => fe ρ (@Hold _ ⟨fun y => ((D.tuple ds).cm = true ∧ y.cm = true) ∧ K (.int (ds.countP fun z => z.eqv y : Nat))⟩) Xc
  | _ => False⟩) Xc) := rfl
def Hold2 {α : Type} [k : Kont α] (x : α) : Prop := k.f x
theorem hold2_ap {α : Type} (f : α → Prop) (x : α) : @Hold2 α ⟨f⟩ x = f x := rfl
theorem seqW_s (f g : WS) (ρ : SEnv) (k : SK) : seqW f g ρ k = f ρ { k with nx := @Hold2 _ ⟨fun ρ' => g ρ' k⟩} := rfl
/-- a statement by what it leaves -/
theorem seq_P {s g : WS} {ρ : SEnv} {k : SK} (P : SEnv → Prop) (h : ∀ N : SEnv → Prop, (∀ ρ', P ρ' → N ρ') → s ρ { k with nx := N }) (hg : ∀ ρ', P ρ' → g ρ' k) : seqW s g ρ k := h _ hg
theorem max2W_e (i j : Int) (K : D → Prop) : max2W [.int i, .int j] K = ∀ M : Int, M = max i j → K (.int M) := by
  show K (.int (if j > i then j else i)) = _
  have e : (if j > i then j else i) = max i j := by split <;> omega
  rw [e]
  exact propext ⟨fun h M hM => hM ▸ h, fun h => h _ rfl⟩
theorem min2W_e (i j : Int) (K : D → Prop) : min2W [.int i, .int j] K = ∀ M : Int, M = min i j → K (.int M) := by
  show K (.int (if j < i then j else i)) = _
  have e : (if j < i then j else i) = min i j := by split <;> omega
  rw [e]
  exact propext ⟨fun h M hM => hM ▸ h, fun h => h _ rfl⟩
end DL

set_option Elab.async false
set_option linter.all false
set_option maxRecDepth 100000
set_option maxHeartbeats 4000000
namespace LM
/-- what a row is worth at x -/
def pv (xs : List Int) (x : Int) : Int := xs.foldr (fun a acc => acc * x + a) 0
/-- .. reckoned modulo p, step by step -/
def ev (p : Int) (xs : List Int) (x : Int) : Int := xs.foldr (fun a acc => (acc * x + a) % p) 0
theorem pv_nil (x : Int) : pv [] x = 0 := rfl
theorem pv_cons (a : Int) (xs : List Int) (x : Int) : pv (a :: xs) x = pv xs x * x + a := rfl
theorem ev_nil (p x : Int) : ev p [] x = 0 := rfl
theorem ev_cons (p a : Int) (xs : List Int) (x : Int) : ev p (a :: xs) x = (ev p xs x * x + a) % p := rfl
theorem mod_mul_add {p a b c : Int} : (a % p * b + c) % p = (a * b + c) % p := by
  rw [Int.add_emod, Int.mul_emod, Int.emod_emod_of_dvd a (Int.dvd_refl p), ← Int.mul_emod, ← Int.add_emod]
theorem ev_pv (p : Int) (xs : List Int) (x : Int) : ev p xs x = pv xs x % p := by
  induction xs with
  | nil => rw [ev_nil, pv_nil, Int.zero_emod]
  | cons a xs ih => rw [ev_cons, pv_cons, ih, mod_mul_add]
theorem ev_foldl (p : Int) (xs : List Int) (x : Int) : xs.reverse.foldl (fun acc a => (acc * x + a) % p) 0 = ev p xs x := by
  rw [List.foldl_reverse]; rfl
theorem ev_range {p : Int} (hp : 0 < p) (xs : List Int) (x : Int) : 0 ≤ ev p xs x ∧ ev p xs x < p := by
  rw [ev_pv]; exact ⟨Int.emod_nonneg _ (by omega), Int.emod_lt_of_pos _ hp⟩
theorem pv_append (xs ys : List Int) (x : Int) : pv (xs ++ ys) x = pv xs x + x ^ xs.length * pv ys x := by
  induction xs with
  | nil => rw [List.nil_append, pv_nil, List.length_nil, Int.pow_zero]; omega
  | cons a xs ih =>
    rw [List.cons_append, pv_cons, ih, pv_cons, List.length_cons, Int.pow_succ, Int.add_mul]
    have : x ^ xs.length * pv ys x * x = x ^ xs.length * x * pv ys x := by rw [Int.mul_assoc, Int.mul_comm (pv ys x) x, ← Int.mul_assoc]
    rw [this]; omega
theorem pv_zeros (n : Nat) (x : Int) : pv (List.replicate n 0) x = 0 := by
  induction n with
  | zero => rfl
  | succ n ih => rw [List.replicate_succ, pv_cons, ih]; omega
/-- without noughts at the end -/
def trim (xs : List Int) : List Int := (xs.reverse.dropWhile (· == 0)).reverse
theorem trim_split (xs : List Int) : ∃ n, xs = trim xs ++ List.replicate n 0 := by
  refine ⟨(xs.reverse.takeWhile (· == 0)).length, ?_⟩
  have h1 : xs.reverse.takeWhile (· == 0) ++ xs.reverse.dropWhile (· == 0) = xs.reverse := List.takeWhile_append_dropWhile
  have h2 : xs.reverse.takeWhile (· == 0) = List.replicate (xs.reverse.takeWhile (· == 0)).length 0 := by
    refine List.eq_replicate_iff.mpr ⟨rfl, fun b hb => ?_⟩
    have : ∀ l : List Int, ∀ b ∈ l.takeWhile (· == 0), b = 0 := by
      intro l
      induction l with
      | nil => intro b hb; simp at hb
      | cons a l ih =>
        intro b hb
        rw [List.takeWhile_cons] at hb
        split at hb
        · rename_i ha
          rcases List.mem_cons.mp hb with e | e
          · rw [e]; simpa using ha
          · exact ih b e
        · simp at hb
    exact this _ b hb
  have h3 := congrArg List.reverse h1
  rw [List.reverse_append, List.reverse_reverse, h2, List.reverse_replicate] at h3
  exact h3.symm
theorem pv_trim (xs : List Int) (x : Int) : pv (trim xs) x = pv xs x := by
  obtain ⟨n, h⟩ := trim_split xs
  conv => rhs; rw [h]
  rw [pv_append, pv_zeros]; omega
theorem ev_trim (p : Int) (xs : List Int) (x : Int) : ev p (trim xs) x = ev p xs x := by rw [ev_pv, ev_pv, pv_trim]
theorem trim_len (xs : List Int) : (trim xs).length ≤ xs.length := by
  obtain ⟨n, h⟩ := trim_split xs
  have := congrArg List.length h
  rw [List.length_append] at this
  omega
theorem trim_sub {xs : List Int} {a : Int} (h : a ∈ trim xs) : a ∈ xs := by
  obtain ⟨n, e⟩ := trim_split xs
  rw [e]; exact List.mem_append_left _ h
theorem trim_nil : trim [] = [] := rfl
theorem trim_snoc (xs : List Int) (a : Int) : trim (xs ++ [a]) = if a = 0 then trim xs else xs ++ [a] := by
  unfold trim
  rw [List.reverse_append, List.reverse_singleton, List.singleton_append, List.dropWhile_cons]
  by_cases h : a = 0
  · simp [h]
  · simp [h]
theorem trim_zeros (xs : List Int) (n : Nat) : trim (xs ++ List.replicate n 0) = trim xs := by
  induction n with
  | zero => simp
  | succ n ih =>
    rw [List.replicate_succ', ← List.append_assoc, trim_snoc, if_pos rfl, ih]
/-- the last one is not 0 -/
def Tr (xs : List Int) : Prop := ∀ a, xs.getLast? = some a → a ≠ 0
theorem tr_trim (xs : List Int) : Tr (trim xs) := by
  intro a h
  unfold trim at h
  rw [List.getLast?_reverse] at h
  intro e
  subst e
  have : ∀ l : List Int, (l.dropWhile (· == 0)).head? ≠ some 0 := by
    intro l
    induction l with
    | nil => simp
    | cons b l ih =>
      rw [List.dropWhile_cons]
      split
      · exact ih
      · rename_i hb
        simp at hb ⊢
        exact hb
  exact this _ h
theorem trim_of {xs : List Int} (h : Tr xs) : trim xs = xs := by
  rcases List.eq_nil_or_concat xs with e | ⟨ys, a, e⟩
  · subst e; rfl
  · rw [List.concat_eq_append] at e
    subst e
    rw [trim_snoc, if_neg (h a (by simp))]
theorem trim_trim (xs : List Int) : trim (trim xs) = trim xs := trim_of (tr_trim xs)
def InR (p : Int) (xs : List Int) : Prop := ∀ a ∈ xs, 0 ≤ a ∧ a < p
theorem InR.trim {p : Int} {xs : List Int} (h : InR p xs) : InR p (LM.trim xs) := fun a ha => h a (trim_sub ha)
theorem InR.app {p : Int} {xs ys : List Int} (h : InR p xs) (k : InR p ys) : InR p (xs ++ ys) := fun a ha => (List.mem_append.mp ha).elim (h a) (k a)
theorem InR.zeros {p : Int} (hp : 0 < p) (n : Nat) : InR p (List.replicate n 0) := fun a ha => by
  have := List.eq_of_mem_replicate ha
  subst this; exact ⟨Int.le_refl 0, hp⟩
theorem InR.take {p : Int} {xs : List Int} (h : InR p xs) (n : Nat) : InR p (xs.take n) := fun a ha => h a (List.mem_of_mem_take ha)
theorem InR.drop {p : Int} {xs : List Int} (h : InR p xs) (n : Nat) : InR p (xs.drop n) := fun a ha => h a (List.mem_of_mem_drop ha)
def padTo (n : Nat) (xs : List Int) : List Int := xs ++ List.replicate (n - xs.length) 0
theorem pad_len {n : Nat} {xs : List Int} (h : xs.length ≤ n) : (padTo n xs).length = n := by unfold padTo; rw [List.length_append, List.length_replicate]; omega
theorem pv_pad (n : Nat) (xs : List Int) (x : Int) : pv (padTo n xs) x = pv xs x := by unfold padTo; rw [pv_append, pv_zeros]; omega
theorem InR.pad {p : Int} {xs : List Int} (hp : 0 < p) (h : InR p xs) (n : Nat) : InR p (padTo n xs) := h.app (InR.zeros hp _)
def addM (p : Int) (xs ys : List Int) : List Int := List.zipWith (fun a b => (a + b) % p) (padTo (max xs.length ys.length) xs) (padTo (max xs.length ys.length) ys)
def plusL (p : Int) (xs ys : List Int) : List Int := trim (addM p xs ys)
theorem pv_zip (p x : Int) : ∀ (xs ys : List Int), xs.length = ys.length → pv (List.zipWith (fun a b => (a + b) % p) xs ys) x % p = (pv xs x + pv ys x) % p
  | [], [], _ => by simp [pv_nil]
  | a :: xs, b :: ys, h => by
    have ih := pv_zip p x xs ys (by simpa using h)
    rw [List.zipWith_cons_cons, pv_cons, pv_cons, pv_cons, Int.add_emod, Int.mul_emod, ih, ← Int.mul_emod, Int.emod_emod_of_dvd _ (Int.dvd_refl p), ← Int.add_emod, Int.add_mul]
    congr 1; omega
  | [], _ :: _, h => by simp at h
  | _ :: _, [], h => by simp at h
theorem pv_addM (p : Int) (xs ys : List Int) (x : Int) : pv (addM p xs ys) x % p = (pv xs x + pv ys x) % p := by
  unfold addM
  rw [pv_zip p x _ _ (by rw [pad_len (Nat.le_max_left ..), pad_len (Nat.le_max_right ..)]), pv_pad, pv_pad]
theorem pv_plus (p : Int) (xs ys : List Int) (x : Int) : pv (plusL p xs ys) x % p = (pv xs x + pv ys x) % p := by
  unfold plusL; rw [pv_trim, pv_addM]
theorem addM_len (p : Int) (xs ys : List Int) : (addM p xs ys).length = max xs.length ys.length := by
  unfold addM
  rw [List.length_zipWith, pad_len (Nat.le_max_left ..), pad_len (Nat.le_max_right ..), Nat.min_self]
theorem plus_len (p : Int) (xs ys : List Int) : (plusL p xs ys).length ≤ max xs.length ys.length := by
  rw [← addM_len p xs ys]; exact trim_len _
theorem InR.addM {p : Int} (hp : 0 < p) (xs ys : List Int) : InR p (LM.addM p xs ys) := fun a ha => by
  unfold LM.addM at ha
  obtain ⟨i, hi, e⟩ := List.mem_iff_getElem.mp ha
  rw [List.getElem_zipWith] at e
  rw [← e]
  exact ⟨Int.emod_nonneg _ (by omega), Int.emod_lt_of_pos _ hp⟩
theorem InR.plus {p : Int} (hp : 0 < p) (xs ys : List Int) : InR p (plusL p xs ys) := (InR.addM hp xs ys).trim
def scaleL (p : Int) (xs : List Int) (c : Int) : List Int := trim (xs.map fun a => a * c % p)
theorem pv_map_mod (p c x : Int) (xs : List Int) : pv (xs.map fun a => a * c % p) x % p = pv xs x * c % p := by
  induction xs with
  | nil => simp [pv_nil]
  | cons a xs ih =>
    rw [List.map_cons, pv_cons, pv_cons, Int.add_emod, Int.mul_emod, ih, ← Int.mul_emod, Int.emod_emod_of_dvd _ (Int.dvd_refl p), ← Int.add_emod, Int.add_mul]
    congr 2
    rw [Int.mul_assoc, Int.mul_assoc, Int.mul_comm c x]
theorem pv_scale (p : Int) (xs : List Int) (c x : Int) : pv (scaleL p xs c) x % p = pv xs x * c % p := by unfold scaleL; rw [pv_trim, pv_map_mod]
theorem scale_len (p : Int) (xs : List Int) (c : Int) : (scaleL p xs c).length ≤ xs.length := by
  refine Nat.le_trans (trim_len _) ?_
  rw [List.length_map]; exact Nat.le_refl _
theorem InR.scale {p : Int} (hp : 0 < p) (xs : List Int) (c : Int) : InR p (scaleL p xs c) := by
  refine InR.trim fun a ha => ?_
  obtain ⟨b, _, e⟩ := List.mem_map.mp ha
  rw [← e]
  exact ⟨Int.emod_nonneg _ (by omega), Int.emod_lt_of_pos _ hp⟩
def inner (p a : Int) (i : Nat) : List Int → Nat → List Int → List Int
  | [], _, acc => acc
  | b :: ys, j, acc => inner p a i ys (j + 1) (acc.set (i + j) ((acc.getD (i + j) 0 + a * b) % p))
def outer (p : Int) (ys : List Int) : List Int → Nat → List Int → List Int
  | [], _, acc => acc
  | a :: xs, i, acc => outer p ys xs (i + 1) (inner p a i ys 0 acc)
def mulL (p : Int) (xs ys : List Int) : List Int := trim (outer p ys xs 0 (List.replicate (xs.length + ys.length - 1) 0))
theorem inner_len (p a : Int) (i : Nat) : ∀ (ys : List Int) (j : Nat) (acc : List Int), (inner p a i ys j acc).length = acc.length
  | [], _, _ => rfl
  | b :: ys, j, acc => by rw [inner, inner_len p a i ys, List.length_set]
theorem outer_len (p : Int) (ys : List Int) : ∀ (xs : List Int) (i : Nat) (acc : List Int), (outer p ys xs i acc).length = acc.length
  | [], _, _ => rfl
  | a :: xs, i, acc => by rw [outer, outer_len p ys xs, inner_len]
theorem inner_snoc (p a : Int) (i : Nat) (b : Int) : ∀ (ys : List Int) (j : Nat) (acc : List Int), inner p a i (ys ++ [b]) j acc = (inner p a i ys j acc).set (i + (j + ys.length)) (((inner p a i ys j acc).getD (i + (j + ys.length)) 0 + a * b) % p)
  | [], j, acc => by simp [inner]
  | c :: ys, j, acc => by
    rw [List.cons_append, inner, inner_snoc p a i b ys, inner, List.length_cons, show j + 1 + ys.length = j + (ys.length + 1) by omega]
theorem outer_snoc (p : Int) (ys : List Int) (a : Int) : ∀ (xs : List Int) (i : Nat) (acc : List Int), outer p ys (xs ++ [a]) i acc = inner p a (i + xs.length) ys 0 (outer p ys xs i acc)
  | [], i, acc => by simp [outer]
  | c :: xs, i, acc => by
    rw [List.cons_append, outer, outer_snoc p ys a xs, outer, List.length_cons, show i + 1 + xs.length = i + (xs.length + 1) by omega]
theorem InR.inner {p : Int} (hp : 0 < p) (a : Int) (i : Nat) : ∀ (ys : List Int) (j : Nat) (acc : List Int), InR p acc → InR p (LM.inner p a i ys j acc)
  | [], _, _, h => h
  | b :: ys, j, acc, h => by
    rw [LM.inner]
    refine InR.inner hp a i ys _ _ fun c hc => ?_
    rcases List.mem_or_eq_of_mem_set hc with hc | hc
    · exact h c hc
    · rw [hc]; exact ⟨Int.emod_nonneg _ (by omega), Int.emod_lt_of_pos _ hp⟩
theorem InR.outer {p : Int} (hp : 0 < p) (ys : List Int) : ∀ (xs : List Int) (i : Nat) (acc : List Int), InR p acc → InR p (LM.outer p ys xs i acc)
  | [], _, _, h => h
  | a :: xs, i, acc, h => by rw [LM.outer]; exact InR.outer hp ys xs _ _ (InR.inner hp a i ys 0 acc h)
theorem InR.mul {p : Int} (hp : 0 < p) (xs ys : List Int) : InR p (mulL p xs ys) := (InR.outer hp ys xs 0 _ (InR.zeros hp _)).trim
theorem mul_len (p : Int) (xs ys : List Int) : (mulL p xs ys).length ≤ xs.length + ys.length - 1 := by
  refine Nat.le_trans (trim_len _) ?_
  rw [outer_len, List.length_replicate]; exact Nat.le_refl _
theorem pv_set (x : Int) : ∀ (acc : List Int) (k : Nat) (v : Int), k < acc.length → pv (acc.set k v) x = pv acc x + (v - acc.getD k 0) * x ^ k
  | a :: acc, 0, v, _ => by
    rw [List.set_cons_zero, pv_cons, pv_cons, List.getD_cons_zero, Int.pow_zero]; omega
  | a :: acc, k + 1, v, h => by
    rw [List.set_cons_succ, pv_cons, pv_set x acc k v (by simpa using h), pv_cons, List.getD_cons_succ, Int.pow_succ, Int.add_mul, ← Int.mul_assoc]; omega
theorem mod_of_sub {p a b : Int} (c : Int) (h : a = b + p * c) : a % p = b % p := by rw [h, Int.add_mul_emod_self_left]
theorem pv_inner (p a x : Int) (i : Nat) : ∀ (ys : List Int) (j : Nat) (acc : List Int), i + j + ys.length ≤ acc.length → pv (inner p a i ys j acc) x % p = (pv acc x + a * x ^ (i + j) * pv ys x) % p
  | [], _, acc, _ => by rw [inner, pv_nil, Int.mul_zero, Int.add_zero]
  | b :: ys, j, acc, h => by
    rw [List.length_cons] at h
    rw [inner, pv_inner p a x i ys (j + 1) _ (by rw [List.length_set]; omega), pv_set x acc (i + j) _ (by omega), pv_cons]
    -- replace the % by a multiple of p
    have hd := Int.emod_add_mul_ediv (acc.getD (i + j) 0 + a * b) p
    generalize acc.getD (i + j) 0 = g at hd ⊢
    generalize hq : (g + a * b) / p = q at hd
    generalize (g + a * b) % p = r at hd ⊢
    refine mod_of_sub (-(q * x ^ (i + j))) ?_
    have e1 : x ^ (i + (j + 1)) = x ^ (i + j) * x := by rw [show i + (j + 1) = (i + j) + 1 by omega, Int.pow_succ]
    rw [e1]
    generalize x ^ (i + j) = X at *
    generalize pv ys x = Y at *
    have hr : r = g + a * b - p * q := by omega
    subst hr
    simp only [Int.sub_mul, Int.add_mul, Int.mul_add, Int.mul_neg, Int.neg_mul]
    have t1 : a * (X * x) * Y = a * X * (Y * x) := by rw [Int.mul_assoc, Int.mul_assoc, Int.mul_assoc, Int.mul_comm Y x]
    have t2 : a * b * X = a * X * b := by rw [Int.mul_assoc, Int.mul_comm b X, ← Int.mul_assoc]
    have t3 : p * q * X = p * (q * X) := Int.mul_assoc ..
    omega
theorem pv_outer (p x : Int) (ys : List Int) : ∀ (xs : List Int) (i : Nat) (acc : List Int), (xs = [] ∨ i + xs.length + ys.length ≤ acc.length + 1) → pv (outer p ys xs i acc) x % p = (pv acc x + x ^ i * pv xs x * pv ys x) % p
  | [], _, acc, _ => by rw [outer, pv_nil, Int.mul_zero, Int.zero_mul, Int.add_zero]
  | a :: xs, i, acc, h => by
    rcases h with h | h
    · cases h
    rw [List.length_cons] at h
    rw [outer, pv_outer p x ys xs (i + 1) _ (by rw [inner_len]; right; omega), Int.add_emod, pv_inner p a x i ys 0 acc (by omega), ← Int.add_emod, pv_cons, Nat.add_zero, Int.pow_succ]
    congr 1
    generalize x ^ i = X
    generalize pv ys x = Y
    generalize pv xs x = Z
    simp only [Int.add_mul, Int.mul_add]
    have t1 : X * x * Z * Y = X * (Z * x) * Y := by rw [Int.mul_assoc X x Z, Int.mul_comm x Z]
    have t2 : a * X * Y = X * a * Y := by rw [Int.mul_comm a X]
    omega
theorem pv_mul (p : Int) (xs ys : List Int) (x : Int) : pv (mulL p xs ys) x % p = pv xs x * pv ys x % p := by
  unfold mulL
  rw [pv_trim, pv_outer p x ys xs 0 _ ?_, pv_zeros, Int.pow_zero, Int.one_mul, Int.zero_add]
  rw [List.length_replicate]
  cases xs with
  | nil => left; rfl
  | cons => right; simp only [List.length_cons]; omega
end LM

set_option Elab.async false
set_option linter.all false
set_option maxRecDepth 100000
set_option maxHeartbeats 4000000
namespace LM
def primeB (i : Int) : Bool := decide (3 ≤ i) && decide (i ≤ 97) && (List.range (i - 2).toNat).all fun k => i % (2 + (k : Int)) != 0
theorem prime_p97 {p : Int} (h : primeB p = true) : 3 ≤ p ∧ p ≤ 97 := by
  unfold primeB at h
  rw [Bool.and_eq_true, Bool.and_eq_true] at h
  exact ⟨of_decide_eq_true h.1.1, of_decide_eq_true h.1.2⟩
theorem prime_mod {p : Int} (h : primeB p = true) {k : Int} (h2 : 2 ≤ k) (hk : k < p) : p % k ≠ 0 := by
  unfold primeB at h
  rw [Bool.and_eq_true, List.all_eq_true] at h
  have := h.2 (k - 2).toNat (List.mem_range.mpr (by omega))
  rw [show (2 : Int) + ((k - 2).toNat : Int) = k by omega] at this
  intro e
  rw [e] at this
  cases this
theorem prime_mul {p : Int} (hp : primeB p = true) {a b : Int} (h : a * b % p = 0) : a % p = 0 ∨ b % p = 0 := by
  obtain ⟨p3, p97⟩ := prime_p97 hp
  by_cases ha : a % p = 0
  · exact .inl ha
  right
  have hg : Nat.gcd p.natAbs a.natAbs = 1 := by
    have d1 : Nat.gcd p.natAbs a.natAbs ∣ p.natAbs := Nat.gcd_dvd_left ..
    have d2 : Nat.gcd p.natAbs a.natAbs ∣ a.natAbs := Nat.gcd_dvd_right ..
    generalize Nat.gcd p.natAbs a.natAbs = g at d1 d2
    have hg0 : g ≠ 0 := fun e => by
      subst e
      have := Nat.eq_zero_of_zero_dvd d1
      omega
    have hle : g ≤ p.natAbs := Nat.le_of_dvd (by omega) d1
    rcases Nat.lt_or_ge g 2 with h1 | h1
    · omega
    · rcases Nat.lt_or_ge g p.natAbs with h2 | h2
      · exfalso
        refine prime_mod hp (k := (g : Int)) (by omega) (by omega) ?_
        refine Int.emod_eq_zero_of_dvd ?_
        rw [← Int.natAbs_dvd_natAbs, Int.natAbs_natCast]
        exact d1
      · have e : g = p.natAbs := by omega
        subst e
        exact absurd (Int.emod_eq_zero_of_dvd (Int.natAbs_dvd_natAbs.mp d2)) ha
  have hd : p.natAbs ∣ a.natAbs * b.natAbs := by
    rw [← Int.natAbs_mul]
    exact Int.natAbs_dvd_natAbs.mpr (Int.dvd_of_emod_eq_zero h)
  have := Nat.Coprime.dvd_of_dvd_mul_left hg hd
  exact Int.emod_eq_zero_of_dvd (Int.natAbs_dvd_natAbs.mp this)
def synth (r : Int) : List Int → List Int
  | [] => []
  | [_] => []
  | _ :: b :: g => pv (b :: g) r :: synth r (b :: g)
theorem synth_len (r : Int) : ∀ f : List Int, (synth r f).length = f.length - 1
  | [] => rfl
  | [_] => rfl
  | _ :: b :: g => by
    rw [synth, List.length_cons, synth_len r (b :: g)]; simp
theorem synth_last (r : Int) : ∀ (f : List Int), 2 ≤ f.length → (synth r f).getLast? = f.getLast?
  | [], h => by simp at h
  | [_], h => by simp at h
  | [a, b], _ => by simp [synth, pv]
  | a :: b :: c :: g, _ => by
    have ih := synth_last r (b :: c :: g) (by simp)
    rw [synth, List.getLast?_cons_cons]
    cases hs : synth r (b :: c :: g) with
    | nil => rw [synth] at hs; cases hs
    | cons d l =>
      rw [List.getLast?_cons_cons, ← hs]
      exact ih
theorem pv_synth (r x : Int) : ∀ f : List Int, pv f x = (x - r) * pv (synth r f) x + pv f r
  | [] => by simp [synth, pv]
  | [a] => by simp [synth, pv]
  | a :: b :: g => by
    have ih := pv_synth r x (b :: g)
    rw [synth, pv_cons, pv_cons (pv (b :: g) r), pv_cons a _ r]
    generalize pv (b :: g) r = G at *
    generalize pv (synth r (b :: g)) x = Q at *
    rw [ih]
    simp only [Int.add_mul, Int.mul_add, Int.sub_mul, Int.mul_assoc, Int.mul_sub]
    rw [Int.mul_comm x G, Int.mul_comm r G]
    omega
theorem roots_le {p : Int} (hp : primeB p = true) : ∀ (n : Nat) (f : List Int), f.length = n + 1 → (∀ a, f.getLast? = some a → a % p ≠ 0) → ∀ rs : List Int, rs.Nodup → (∀ r ∈ rs, 0 ≤ r ∧ r < p ∧ pv f r % p = 0) → rs.length ≤ n
  | 0, f, hl, ht, rs, _, hr => by
    match f, hl with
    | [a], _ =>
      cases rs with
      | nil => exact Nat.le_refl _
      | cons r rs =>
        obtain ⟨_, _, e⟩ := hr r (List.mem_cons_self ..)
        rw [pv_cons, pv_nil, Int.zero_mul, Int.zero_add] at e
        exact absurd e (ht a rfl)
  | n + 1, f, hl, ht, rs, hn, hr => by
    cases rs with
    | nil => exact Nat.zero_le _
    | cons r rs =>
      rw [List.nodup_cons] at hn
      obtain ⟨r0, r1, re⟩ := hr r (List.mem_cons_self ..)
      have := roots_le hp n (synth r f) (by rw [synth_len]; omega) (fun a ha => ht a (by rw [← synth_last r f (by omega)]; exact ha)) rs hn.2 fun x hx => by
        obtain ⟨x0, x1, xe⟩ := hr x (List.mem_cons_of_mem _ hx)
        refine ⟨x0, x1, ?_⟩
        have e := pv_synth r x f
        have hz : (x - r) * pv (synth r f) x % p = 0 := by
          have e2 : (x - r) * pv (synth r f) x = pv f x - pv f r := by omega
          rw [e2, Int.sub_emod, xe, re]; rfl
        rcases prime_mul hp hz with h | h
        · exfalso
          have hne : x ≠ r := fun e => by subst e; exact hn.1 hx
          obtain ⟨k, hk⟩ := Int.dvd_of_emod_eq_zero h
          have hk0 : k ≠ 0 := fun e => by subst e; rw [Int.mul_zero] at hk; omega
          rcases Int.lt_or_lt_of_ne hk0 with h1 | h1
          · have : p * k ≤ p * (-1) := Int.mul_le_mul_of_nonneg_left (by omega) (by omega)
            omega
          · have : p * 1 ≤ p * k := Int.mul_le_mul_of_nonneg_left (by omega) (by omega)
            omega
        · exact h
      rw [List.length_cons]; omega
/-- a line that has as many roots as numbers is none -/
theorem line_nil {p : Int} (hp : primeB p = true) {f : List Int} (hf : InR p f) (ht : Tr f) {rs : List Int} (hn : rs.Nodup) (hr : ∀ r ∈ rs, 0 ≤ r ∧ r < p ∧ pv f r % p = 0) (hl : f.length ≤ rs.length) : f = [] := by
  cases hq : f.length with
  | zero => exact List.eq_nil_of_length_eq_zero hq
  | succ n =>
    have := roots_le hp n f hq (fun a ha => by
      have h1 := hf a (List.mem_of_getLast? ha)
      have h2 := ht a ha
      rw [Int.emod_eq_of_lt h1.1 h1.2]; exact h2) rs hn hr
    omega
theorem roots_lt {p : Int} (hp : primeB p = true) {f : List Int} (hf : InR p f) (ht : Tr f) (hne : f ≠ []) {rs : List Int} (hn : rs.Nodup) (hr : ∀ r ∈ rs, 0 ≤ r ∧ r < p ∧ pv f r % p = 0) : rs.length < f.length := by
  rcases Nat.lt_or_ge rs.length f.length with h | h
  · exact h
  · exact absurd (line_nil hp hf ht hn hr h) hne
theorem inner_getD (p a : Int) (i k : Nat) : ∀ (ys : List Int) (j : Nat) (acc : List Int), i + j + ys.length ≤ k → (inner p a i ys j acc).getD k 0 = acc.getD k 0
  | [], _, _, _ => rfl
  | b :: ys, j, acc, h => by
    rw [List.length_cons] at h
    rw [inner, inner_getD p a i k ys (j + 1) _ (by omega), List.getD_eq_getElem?_getD, List.getElem?_set_ne (by omega), ← List.getD_eq_getElem?_getD]
theorem outer_getD (p : Int) (ys : List Int) (k : Nat) : ∀ (xs : List Int) (i : Nat) (acc : List Int), i + xs.length + ys.length ≤ k + 1 → (outer p ys xs i acc).getD k 0 = acc.getD k 0
  | [], _, _, _ => rfl
  | a :: xs, i, acc, h => by
    rw [List.length_cons] at h
    rw [outer, outer_getD p ys k xs (i + 1) _ (by omega), inner_getD p a i k ys 0 _ (by omega)]
theorem mul_top (p : Int) (xs ys : List Int) (a b : Int) (h : a * b % p ≠ 0) : ∃ zs, mulL p (xs ++ [a]) (ys ++ [b]) = zs ++ [a * b % p] ∧ zs.length = xs.length + ys.length := by
  unfold mulL
  have hl : (xs ++ [a]).length + (ys ++ [b]).length - 1 = xs.length + ys.length + 1 := by simp; omega
  rw [hl, outer_snoc, Nat.zero_add, inner_snoc, Nat.zero_add]
  have h0 : (inner p a xs.length ys 0 (outer p (ys ++ [b]) xs 0 (List.replicate (xs.length + ys.length + 1) 0))).getD (xs.length + ys.length) 0 = 0 := by
    rw [inner_getD _ _ _ _ _ _ _ (by omega), outer_getD _ _ _ _ _ _ (by simp; omega)]
    simp [List.getD_eq_getElem?_getD, List.getElem?_replicate]
  rw [h0, Int.zero_add]
  generalize hI : inner p a xs.length ys 0 (outer p (ys ++ [b]) xs 0 (List.replicate (xs.length + ys.length + 1) 0)) = I
  have hIl : I.length = xs.length + ys.length + 1 := by rw [← hI, inner_len, outer_len, List.length_replicate]
  rcases List.eq_nil_or_concat I with e | ⟨zs, c, e⟩
  · rw [e] at hIl; simp at hIl
  · rw [List.concat_eq_append] at e
    have hz : zs.length = xs.length + ys.length := by rw [e] at hIl; simpa using hIl
    refine ⟨zs, ?_, hz⟩
    rw [e, ← hz, List.set_append_right _ _ (Nat.le_refl _), Nat.sub_self, List.set_cons_zero, trim_snoc, if_neg h]
theorem inv_all : ∀ p : Fin 98, primeB (p.val : Int) = true → ∀ a : Fin 98, 0 < a.val → a.val < p.val → a.val * (a.val ^ (p.val - 2) % p.val) % p.val = 1 := by decide +kernel
theorem inv_ok {p a : Int} (hp : primeB p = true) (h0 : 0 < a) (h1 : a < p) : a * (a ^ (p - 2).toNat % p) % p = 1 := by
  obtain ⟨p3, p97⟩ := prime_p97 hp
  obtain ⟨P, rfl⟩ : ∃ P : Nat, p = (P : Int) := ⟨p.toNat, by omega⟩
  obtain ⟨A, rfl⟩ : ∃ A : Nat, a = (A : Int) := ⟨a.toNat, by omega⟩
  have := inv_all ⟨P, by omega⟩ hp ⟨A, by omega⟩ (by show 0 < A; omega) (by show A < P; omega)
  have e : ((P : Int) - 2).toNat = P - 2 := by omega
  rw [e]
  have t : ((A * (A ^ (P - 2) % P) % P : Nat) : Int) = 1 := by rw [this]; rfl
  rw [Int.natCast_emod, Int.natCast_mul, Int.natCast_emod, Int.natCast_pow] at t
  exact t
end LM

set_option Elab.async false
set_option linter.all false
set_option maxRecDepth 100000
set_option maxHeartbeats 4000000
namespace LM
def rootLine (p : Int) (rs : List Int) : List Int := rs.foldl (fun f x => mulL p f [(0 - x) % p, 1]) [1]
def prodR : List Int → Int → Int
  | [], _ => 1
  | r :: rs, x => (x - r) * prodR rs x
theorem rl_aux {p : Int} (hp : 2 ≤ p) : ∀ (rs f : List Int), (∃ zs, f = zs ++ [1]) → InR p f → (∃ zs, rs.foldl (fun f x => mulL p f [(0 - x) % p, 1]) f = zs ++ [1] ∧ zs.length + 1 = f.length + rs.length) ∧ InR p (rs.foldl (fun f x => mulL p f [(0 - x) % p, 1]) f) ∧ ∀ x, pv (rs.foldl (fun f x => mulL p f [(0 - x) % p, 1]) f) x % p = pv f x * prodR rs x % p
  | [], f, ⟨zs, e⟩, hf => ⟨⟨zs, e, by rw [e]; simp⟩, hf, fun x => by rw [prodR, Int.mul_one]; rfl⟩
  | r :: rs, f, ⟨zs, e⟩, hf => by
    obtain ⟨ws, hw, hwl⟩ := mul_top p zs [(0 - r) % p] 1 1 (by rw [Int.one_mul, Int.emod_eq_of_lt (by decide) (by omega)]; decide)
    have h1 : (1 : Int) * 1 % p = 1 := by rw [Int.one_mul, Int.emod_eq_of_lt (by decide) (by omega)]
    rw [h1, ← e] at hw
    have hw2 : mulL p f [(0 - r) % p, 1] = ws ++ [1] := hw
    obtain ⟨⟨vs, g1, g2⟩, g3, g4⟩ := rl_aux hp rs (mulL p f [(0 - r) % p, 1]) ⟨ws, hw2⟩ (InR.mul (by omega) _ _)
    refine ⟨⟨vs, g1, ?_⟩, g3, fun x => ?_⟩
    · rw [g2, hw2, e]
      simp only [List.length_append, List.length_cons, List.length_nil] at hwl ⊢
      omega
    · rw [List.foldl_cons, g4 x, Int.mul_emod, pv_mul, ← Int.mul_emod, prodR]
      rw [pv_cons, pv_cons, pv_nil]
      have hd := Int.emod_add_mul_ediv (0 - r) p
      generalize (0 - r) / p = q at hd
      generalize (0 - r) % p = c at hd ⊢
      refine mod_of_sub (-(pv f x * q * prodR rs x)) ?_
      have hc : c = -r - p * q := by omega
      subst hc
      generalize pv f x = F
      generalize prodR rs x = R
      have e1 : (0 * x + 1) * x + (-r - p * q) = (x - r) - p * q := by rw [Int.zero_mul, Int.zero_add, Int.one_mul]; omega
      rw [e1, Int.mul_sub, Int.sub_mul]
      have t1 : F * (x - r) * R = F * ((x - r) * R) := Int.mul_assoc ..
      have t2 : F * (p * q) * R = p * (F * q * R) := by rw [← Int.mul_assoc F p q, Int.mul_comm F p, Int.mul_assoc, Int.mul_assoc, Int.mul_assoc]
      rw [t1, t2, Int.mul_neg]; omega
structure RL (p : Int) (rs f : List Int) : Prop where
  top : ∃ zs, f = zs ++ [1]
  len : f.length = rs.length + 1
  ok : InR p f
  tr : Tr f
  at_ : ∀ x, pv f x % p = prodR rs x % p
theorem rl_ok {p : Int} (hp : 2 ≤ p) (rs : List Int) : RL p rs (rootLine p rs) := by
  obtain ⟨⟨zs, h1, h2⟩, h3, h4⟩ := rl_aux hp rs [1] ⟨[], rfl⟩ (fun a ha => by simp at ha; omega)
  refine ⟨⟨zs, h1⟩, ?_, h3, ?_, fun x => ?_⟩
  · unfold rootLine
    rw [h1]
    simp only [List.length_append, List.length_cons, List.length_nil] at h2 ⊢
    omega
  · intro a ha
    unfold rootLine at ha
    rw [h1, List.getLast?_concat] at ha
    cases ha
    decide
  · unfold rootLine
    rw [h4 x, pv_cons, pv_nil, Int.zero_mul, Int.zero_add, Int.one_mul]
theorem prodR_zero {p : Int} (hp : primeB p = true) : ∀ (rs : List Int) (x : Int), prodR rs x % p = 0 → ∃ r ∈ rs, (x - r) % p = 0
  | [], x, h => by
    have := prime_p97 hp
    rw [prodR, Int.emod_eq_of_lt (by decide) (by omega)] at h
    cases h
  | r :: rs, x, h => by
    rcases prime_mul hp h with h | h
    · exact ⟨r, List.mem_cons_self .., h⟩
    · obtain ⟨q, hq, e⟩ := prodR_zero hp rs x h
      exact ⟨q, List.mem_cons_of_mem _ hq, e⟩
theorem prodR_mem {p : Int} : ∀ (rs : List Int) (x : Int), x ∈ rs → prodR rs x % p = 0
  | r :: rs, x, h => by
    rw [prodR]
    rcases List.mem_cons.mp h with e | h
    · subst e; rw [Int.sub_self, Int.zero_mul, Int.zero_emod]
    · rw [Int.mul_emod, prodR_mem rs x h, Int.mul_zero, Int.zero_emod]
theorem sub_mod_eq {p x r : Int} (h0 : 0 ≤ x) (h1 : x < p) (g0 : 0 ≤ r) (g1 : r < p) (h : (x - r) % p = 0) : x = r := by
  have := Int.emod_eq_emod_iff_emod_sub_eq_zero.mpr h
  rw [Int.emod_eq_of_lt h0 h1, Int.emod_eq_of_lt g0 g1] at this
  exact this
/-- the roots of a line of roots -/
theorem rl_root {p : Int} (hp : primeB p = true) {rs : List Int} (hr : InR p rs) {x : Int} (h0 : 0 ≤ x) (h1 : x < p) : pv (rootLine p rs) x % p = 0 ↔ x ∈ rs := by
  have hp3 := prime_p97 hp
  rw [(rl_ok (by omega) rs).at_ x]
  constructor
  · intro h
    obtain ⟨r, hm, e⟩ := prodR_zero hp rs x h
    have := hr r hm
    rw [sub_mod_eq h0 h1 this.1 this.2 e]; exact hm
  · exact prodR_mem rs x
theorem getD_zeros (n k : Nat) : (List.replicate n (0 : Int)).getD k 0 = 0 := by
  rw [List.getD_eq_getElem?_getD, List.getElem?_replicate]
  split <;> rfl
theorem getD_app0 (xs : List Int) (n k : Nat) : (xs ++ List.replicate n 0).getD k 0 = xs.getD k 0 := by
  rw [List.getD_eq_getElem?_getD, List.getD_eq_getElem?_getD]
  rcases Nat.lt_or_ge k xs.length with h | h
  · rw [List.getElem?_append_left h]
  · rw [List.getElem?_append_right h, List.getElem?_eq_none h, ← List.getD_eq_getElem?_getD, getD_zeros]; rfl
theorem getD_trim (xs : List Int) (k : Nat) : (trim xs).getD k 0 = xs.getD k 0 := by
  obtain ⟨n, e⟩ := trim_split xs
  conv => rhs; rw [e]
  rw [getD_app0]
theorem getD_pad (n k : Nat) (xs : List Int) : (padTo n xs).getD k 0 = xs.getD k 0 := getD_app0 ..
theorem getD_addM (p : Int) (xs ys : List Int) (k : Nat) : (addM p xs ys).getD k 0 = (xs.getD k 0 + ys.getD k 0) % p := by
  have hl := addM_len p xs ys
  rw [← getD_pad (max xs.length ys.length) k xs, ← getD_pad (max xs.length ys.length) k ys]
  have l1 := pad_len (n := max xs.length ys.length) (xs := xs) (Nat.le_max_left ..)
  have l2 := pad_len (n := max xs.length ys.length) (xs := ys) (Nat.le_max_right ..)
  rcases Nat.lt_or_ge k (max xs.length ys.length) with h | h
  · rw [List.getD_eq_getElem?_getD, List.getElem?_eq_getElem (by omega), List.getD_eq_getElem?_getD, List.getElem?_eq_getElem (by omega), List.getD_eq_getElem?_getD, List.getElem?_eq_getElem (by omega)]
    simp only [addM, List.getElem_zipWith, Option.getD_some]
  · rw [List.getD_eq_getElem?_getD, List.getElem?_eq_none (by omega), List.getD_eq_getElem?_getD, List.getElem?_eq_none (by omega), List.getD_eq_getElem?_getD, List.getElem?_eq_none (by omega)]
    simp
theorem getD_plus (p : Int) (xs ys : List Int) (k : Nat) : (plusL p xs ys).getD k 0 = (xs.getD k 0 + ys.getD k 0) % p := by unfold plusL; rw [getD_trim, getD_addM]
theorem trim_short : ∀ (xs : List Int) (n : Nat), xs.length ≤ n + 1 → xs.getD n 0 = 0 → (trim xs).length ≤ n := fun xs n hl h => by
  rcases List.eq_nil_or_concat xs with e | ⟨zs, a, e⟩
  · subst e; rw [trim_nil]; exact Nat.zero_le _
  · rw [List.concat_eq_append] at e
    subst e
    rw [List.length_append, List.length_singleton] at hl
    rcases Nat.lt_or_ge zs.length n with h1 | h1
    · have := trim_len (zs ++ [a])
      rw [List.length_append, List.length_singleton] at this
      omega
    · have e : zs.length = n := by omega
      subst e
      have : a = 0 := by simpa using h
      subst this
      rw [trim_snoc, if_pos rfl]
      exact trim_len zs
structure DivOk (p : Int) (xs ys q r : List Int) : Prop where
  eq : ∀ x, pv xs x % p = (pv q x * pv ys x + pv r x) % p
  rl : r.length < ys.length
  ri : InR p r
  rt : Tr r
  qi : InR p q
  qt : Tr q
  ql : q.length ≤ xs.length
theorem pv_shift (n : Nat) (xs : List Int) (x : Int) : pv (List.replicate n 0 ++ xs) x = x ^ n * pv xs x := by
  rw [pv_append, pv_zeros, Int.zero_add, List.length_replicate]
/-- one step: the rest less a multiple of the divisor -/
theorem div_step {p : Int} (hp : primeB p = true) {ys rs f : List Int} {b a : Int} {ys' rs' : List Int} (hys : ys = ys' ++ [b]) (hrs : rs = rs' ++ [a]) (hyi : InR p ys) (hb : b ≠ 0) (hle : ys.length ≤ rs.length)
    (hf : f.getD (rs.length - ys.length) 0 = 0) (hfl : rs.length - ys.length < f.length) :
    let at_ := rs.length - ys.length
    let c := a * (b ^ (p - 2).toNat % p) % p
    let part := List.replicate at_ 0 ++ scaleL p ys ((0 - c) % p)
    (plusL p rs part).length < rs.length ∧ (∀ x, (pv (f.set at_ c) x * pv ys x + pv (plusL p rs part) x) % p = (pv f x * pv ys x + pv rs x) % p) := by
  obtain ⟨p3, p97⟩ := prime_p97 hp
  intro at_ c part
  have hbr := hyi b (by rw [hys]; simp)
  have hinv := inv_ok hp (a := b) (by omega) hbr.2
  have hyl : ys.length = ys'.length + 1 := by rw [hys]; simp
  have hrl : rs.length = rs'.length + 1 := by rw [hrs]; simp
  have hcb : c * b % p = a % p := by
    show a * (b ^ (p - 2).toNat % p) % p * b % p = a % p
    rw [Int.mul_emod, Int.emod_emod_of_dvd _ (Int.dvd_refl p), ← Int.mul_emod, Int.mul_assoc, Int.mul_comm _ b, Int.mul_emod, hinv, Int.mul_one, Int.emod_emod_of_dvd _ (Int.dvd_refl p)]
  have hpl : part.length ≤ rs.length := by
    show (List.replicate at_ (0 : Int) ++ scaleL p ys ((0 - c) % p)).length ≤ _
    have := scale_len p ys ((0 - c) % p)
    rw [List.length_append, List.length_replicate]
    show rs.length - ys.length + _ ≤ _
    omega
  constructor
  · -- the top goes
    have h1 : (addM p rs part).length ≤ rs'.length + 1 := by rw [addM_len]; omega
    have h2 : (addM p rs part).getD rs'.length 0 = 0 := by
      rw [getD_addM]
      have ra : rs.getD rs'.length 0 = a := by rw [hrs]; simp
      have pa : part.getD rs'.length 0 = b * ((0 - c) % p) % p := by
        show (List.replicate at_ (0 : Int) ++ scaleL p ys ((0 - c) % p)).getD rs'.length 0 = _
        have hat : at_ = rs'.length - ys'.length := by show rs.length - ys.length = _; omega
        rw [List.getD_eq_getElem?_getD, List.getElem?_append_right (by rw [List.length_replicate]; omega), List.length_replicate, ← List.getD_eq_getElem?_getD]
        unfold scaleL
        rw [getD_trim, show rs'.length - at_ = ys'.length by omega, hys, List.map_append]
        simp
      rw [ra, pa]
      have e : (a + b * ((0 - c) % p) % p) % p = (a - c * b) % p := by
        rw [Int.add_emod, Int.emod_emod_of_dvd _ (Int.dvd_refl p), Int.mul_emod, Int.emod_emod_of_dvd _ (Int.dvd_refl p), ← Int.mul_emod, ← Int.add_emod]
        congr 1
        rw [Int.mul_sub, Int.mul_zero, Int.mul_comm b c]; omega
      rw [e, Int.sub_emod, hcb, Int.sub_self, Int.zero_emod]
    have := trim_short _ _ h1 h2
    unfold plusL
    omega
  · intro x
    have e1 : pv (f.set at_ c) x = pv f x + c * x ^ at_ := by
      rw [pv_set x f at_ c hfl]
      rw [show f.getD at_ 0 = 0 from hf, Int.sub_zero]
    have e2 : pv part x % p = x ^ at_ * (pv ys x * ((0 - c) % p)) % p := by
      show pv (List.replicate at_ 0 ++ scaleL p ys ((0 - c) % p)) x % p = _
      rw [pv_shift, Int.mul_emod, pv_scale, ← Int.mul_emod]
    rw [Int.add_emod, pv_plus, Int.add_emod (pv rs x), e2, ← Int.add_emod (pv rs x), ← Int.add_emod, e1]
    have hd := Int.emod_add_mul_ediv (0 - c) p
    generalize (0 - c) / p = q at hd
    generalize (0 - c) % p = d at hd ⊢
    have hdd : d = -c - p * q := by omega
    subst hdd
    generalize x ^ at_ = X
    generalize pv ys x = Y
    generalize pv rs x = R
    generalize pv f x = F
    refine mod_of_sub (-(X * Y * q)) ?_
    have t1 : (F + c * X) * Y = F * Y + X * (Y * c) := by rw [Int.add_mul, Int.mul_comm c X, Int.mul_assoc, Int.mul_comm c Y]
    have t2 : X * (Y * (-c - p * q)) = -(X * (Y * c)) - p * (X * Y * q) := by
      rw [Int.mul_sub, Int.mul_sub, Int.mul_neg, Int.mul_neg]
      congr 1
      rw [← Int.mul_assoc Y p q, Int.mul_comm Y p, ← Int.mul_assoc, ← Int.mul_assoc, ← Int.mul_assoc, Int.mul_comm X p, Int.mul_assoc p X Y]
    rw [t1, t2, Int.mul_neg]; omega
/-- what is left has the roots that both have -/
theorem div_root {p : Int} {xs ys q r : List Int} (h : DivOk p xs ys q r) {x : Int} (hx : pv xs x % p = 0) (hy : pv ys x % p = 0) : pv r x % p = 0 := by
  have e := h.eq x
  rw [hx, Int.add_emod, Int.mul_emod, hy, Int.mul_zero, Int.zero_emod, Int.zero_add, Int.emod_emod_of_dvd _ (Int.dvd_refl p)] at e
  exact e.symm
end LM

set_option Elab.async false
set_option linter.all false
set_option maxRecDepth 100000
set_option maxHeartbeats 4000000
namespace LM
theorem line_ext {f g : List Int} (hf : Tr f) (hg : Tr g) (h : ∀ k, f.getD k 0 = g.getD k 0) : f = g := by
  have key : ∀ f g : List Int, Tr g → (∀ k, f.getD k 0 = g.getD k 0) → g.length ≤ f.length := by
    intro f g hg h
    rcases Nat.lt_or_ge f.length g.length with hl | hl
    · exfalso
      rcases List.eq_nil_or_concat g with e | ⟨zs, a, e⟩
      · subst e; simp at hl
      · rw [List.concat_eq_append] at e
        have ha := hg a (by rw [e]; simp)
        have := h zs.length
        rw [e, List.length_append, List.length_singleton] at hl
        rw [List.getD_eq_getElem?_getD, List.getElem?_eq_none (by omega)] at this
        rw [e] at this
        have e2 : (zs ++ [a]).getD zs.length 0 = a := by simp
        rw [e2] at this
        exact ha this.symm
    · exact hl
  have h1 := key f g hg h
  have h2 := key g f hf fun k => (h k).symm
  refine List.ext_getElem (by omega) fun k k1 k2 => ?_
  have := h k
  rw [List.getD_eq_getElem?_getD, List.getD_eq_getElem?_getD, List.getElem?_eq_getElem k1, List.getElem?_eq_getElem k2] at this
  exact this
theorem getD_inr {p : Int} (hp : 0 < p) {f : List Int} (h : InR p f) (k : Nat) : 0 ≤ f.getD k 0 ∧ f.getD k 0 < p := by
  rw [List.getD_eq_getElem?_getD]
  rcases Nat.lt_or_ge k f.length with hl | hl
  · rw [List.getElem?_eq_getElem hl]; exact h _ (List.getElem_mem hl)
  · rw [List.getElem?_eq_none hl]; exact ⟨Int.le_refl 0, hp⟩
theorem getD_map0 (f : List Int) (c p : Int) (k : Nat) : (f.map fun a => a * c % p).getD k 0 = f.getD k 0 * c % p := by
  rw [List.getD_eq_getElem?_getD, List.getD_eq_getElem?_getD, List.getElem?_map]
  cases f[k]? with
  | none => simp
  | some a => rfl
/-- two lines that agree at as many numbers as they are long are one -/
theorem agree_line {p : Int} (hp : primeB p = true) {f g : List Int} (hf : InR p f) (hg : InR p g) (tf : Tr f) (tg : Tr g) {n : Nat} (lf : f.length ≤ n) (lg : g.length ≤ n) {rs : List Int} (hn : rs.Nodup) (hl : n ≤ rs.length) (hr : ∀ r ∈ rs, 0 ≤ r ∧ r < p ∧ ev p f r = ev p g r) : f = g := by
  obtain ⟨p3, p97⟩ := prime_p97 hp
  have hd : plusL p f (scaleL p g (p - 1)) = [] := by
    refine line_nil hp (InR.plus (by omega) _ _) (tr_trim _) hn (fun r hm => ?_) ?_
    · obtain ⟨r0, r1, e⟩ := hr r hm
      refine ⟨r0, r1, ?_⟩
      rw [ev_pv, ev_pv] at e
      rw [pv_plus, Int.add_emod, pv_scale, ← Int.add_emod]
      have e2 : (pv f r + pv g r * (p - 1)) % p = (pv f r - pv g r) % p := by
        refine mod_of_sub (pv g r) ?_
        rw [Int.mul_sub, Int.mul_one, Int.mul_comm p]; omega
      rw [e2]
      exact Int.emod_eq_emod_iff_emod_sub_eq_zero.mp e
    · have := plus_len p f (scaleL p g (p - 1))
      have := scale_len p g (p - 1)
      omega
  refine line_ext tf tg fun k => ?_
  have e := congrArg (fun l => l.getD k 0) hd
  simp only [getD_plus] at e
  unfold scaleL at e
  rw [getD_trim, getD_map0] at e
  have h1 := getD_inr (by omega) hf k
  have h2 := getD_inr (by omega) hg k
  have e3 : (f.getD k 0 + g.getD k 0 * (p - 1) % p) % p = (f.getD k 0 - g.getD k 0) % p := by
    rw [Int.add_emod, Int.emod_emod_of_dvd _ (Int.dvd_refl p), ← Int.add_emod]
    refine mod_of_sub (g.getD k 0) ?_
    rw [Int.mul_sub, Int.mul_one, Int.mul_comm p]; omega
  rw [e3] at e
  exact sub_mod_eq h1.1 h1.2 h2.1 h2.2 (by simpa using e)
/-- the line goes through the points -/
def Fit (p : Int) (pts : List (Int × Int)) (f : List Int) : Prop := ∀ q ∈ pts, ev p f q.1 = q.2
structure Pts (p : Int) (pts : List (Int × Int)) : Prop where
  ok : ∀ q ∈ pts, 0 ≤ q.1 ∧ q.1 < p ∧ 0 ≤ q.2 ∧ q.2 < p
  nd : (pts.map (·.1)).Nodup
structure Thr (p : Int) (pts : List (Int × Int)) (f : List Int) : Prop where
  ok : InR p f
  tr : Tr f
  len : f.length ≤ pts.length
  fit : Fit p pts f
theorem thr_one {p : Int} (hp : primeB p = true) {pts : List (Int × Int)} (hs : Pts p pts) {f g : List Int} (hf : Thr p pts f) (hg : Thr p pts g) : f = g := by
  refine agree_line hp hf.ok hg.ok hf.tr hg.tr hf.len hg.len hs.nd (by rw [List.length_map]; exact Nat.le_refl _) fun r hr => ?_
  obtain ⟨q, hq, rfl⟩ := List.mem_map.mp hr
  have := hs.ok q hq
  exact ⟨this.1, this.2.1, (hf.fit q hq).trans (hg.fit q hq).symm⟩

theorem rl_snoc (p : Int) (rs : List Int) (x : Int) : rootLine p (rs ++ [x]) = mulL p (rootLine p rs) [(0 - x) % p, 1] := by
  unfold rootLine
  rw [List.foldl_append]; rfl
def others (xs : List Int) (x : Int) : List Int := xs.filter fun o => !(o == x)
theorem others_inr {p : Int} {xs : List Int} (h : InR p xs) (x : Int) : InR p (others xs x) := fun a ha => h a (List.mem_filter.mp ha).1
theorem others_len {xs : List Int} (hn : xs.Nodup) {x : Int} (hx : x ∈ xs) : (others xs x).length + 1 = xs.length := by
  induction xs with
  | nil => cases hx
  | cons a xs ih =>
    rw [List.nodup_cons] at hn
    unfold others at *
    by_cases e : a = x
    · subst e
      rw [List.filter_cons_of_neg (by simp), List.length_cons]
      congr 1
      rw [List.filter_eq_self.mpr]
      intro b hb
      have : b ≠ a := fun e => hn.1 (e ▸ hb)
      simp [this]
    · rw [List.filter_cons_of_pos (by simp [e]), List.length_cons, List.length_cons]
      rcases List.mem_cons.mp hx with h | h
      · exact absurd h.symm e
      · rw [ih hn.2 h]
theorem others_not (xs : List Int) (x : Int) : x ∉ others xs x := fun h => by
  have := (List.mem_filter.mp h).2
  simp at this
theorem mem_others {xs : List Int} {x y : Int} (h : y ∈ xs) (hne : y ≠ x) : y ∈ others xs x := List.mem_filter.mpr ⟨h, by simp [hne]⟩
/-- one part of the line: y at x, 0 at the others -/
theorem part_at {p : Int} (hp : primeB p = true) {xs : List Int} (hxs : InR p xs) {x y : Int} (hx : x ∈ xs) (hy : 0 ≤ y ∧ y < p) :
    let c := y * ((prodR (others xs x) x % p) ^ (p - 2).toNat % p) % p
    let l := scaleL p (rootLine p (others xs x)) c
    ev p l x = y ∧ ∀ z ∈ xs, z ≠ x → ev p l z = 0 := by
  obtain ⟨p3, p97⟩ := prime_p97 hp
  have hxr := hxs x hx
  intro c l
  have R := rl_ok (p := p) (by omega) (others xs x)
  have hs0 : prodR (others xs x) x % p ≠ 0 := fun e => by
    obtain ⟨r, hr, e2⟩ := prodR_zero hp _ _ e
    have hrr := others_inr hxs x r hr
    have := sub_mod_eq hxr.1 hxr.2 hrr.1 hrr.2 e2
    exact others_not xs x (this ▸ hr)
  constructor
  · show ev p (scaleL p (rootLine p (others xs x)) c) x = y
    rw [ev_pv, pv_scale, Int.mul_emod, R.at_ x]
    show prodR (others xs x) x % p * (y * ((prodR (others xs x) x % p) ^ (p - 2).toNat % p) % p % p) % p = y
    have hs1 := Int.emod_nonneg (prodR (others xs x) x) (show p ≠ 0 by omega)
    have hs2 := Int.emod_lt_of_pos (prodR (others xs x) x) (show 0 < p by omega)
    generalize prodR (others xs x) x % p = s at hs0 hs1 hs2 ⊢
    have hi := inv_ok hp (a := s) (by omega) hs2
    generalize s ^ (p - 2).toNat % p = i at hi ⊢
    rw [Int.emod_emod_of_dvd _ (Int.dvd_refl p), Int.mul_emod, Int.emod_emod_of_dvd _ (Int.dvd_refl p), ← Int.mul_emod]
    have e : s * (y * i) = y * (s * i) := by rw [← Int.mul_assoc, Int.mul_comm s y, Int.mul_assoc]
    rw [e, Int.mul_emod, hi, Int.mul_one, Int.emod_emod_of_dvd _ (Int.dvd_refl p), Int.emod_eq_of_lt hy.1 hy.2]
  · intro z hz hne
    show ev p (scaleL p (rootLine p (others xs x)) c) z = 0
    rw [ev_pv, pv_scale, Int.mul_emod, R.at_ z, prodR_mem _ _ (mem_others hz hne), Int.zero_mul, Int.zero_emod]
/-- the sum of the parts so far -/
structure Lag (p : Int) (pts : List (Int × Int)) (i : Nat) (f : List Int) : Prop where
  ok : InR p f
  tr : Tr f
  len : f.length ≤ pts.length
  done : ∀ k q, pts[k]? = some q → ev p f q.1 = if k < i then q.2 else 0
theorem lag_zero (p : Int) (pts : List (Int × Int)) : Lag p pts 0 [] := ⟨(fun a ha => nomatch ha), (fun a ha => nomatch ha), Nat.zero_le _, fun k q _ => by rw [if_neg (by omega)]; rfl⟩
theorem lag_step {p : Int} (hp : primeB p = true) {pts : List (Int × Int)} (hs : Pts p pts) {i : Nat} {q : Int × Int} (hq : pts[i]? = some q) {f : List Int} (hf : Lag p pts i f) :
    Lag p pts (i + 1) (plusL p f (scaleL p (rootLine p (others (pts.map (·.1)) q.1)) (q.2 * ((prodR (others (pts.map (·.1)) q.1) q.1 % p) ^ (p - 2).toNat % p) % p))) := by
  obtain ⟨p3, p97⟩ := prime_p97 hp
  have hxs : InR p (pts.map (·.1)) := fun a ha => by
    obtain ⟨r, hr, rfl⟩ := List.mem_map.mp ha
    exact ⟨(hs.ok r hr).1, (hs.ok r hr).2.1⟩
  have hqm := List.mem_of_getElem? hq
  have hx : q.1 ∈ pts.map (·.1) := List.mem_map.mpr ⟨q, hqm, rfl⟩
  have hqo := hs.ok q hqm
  obtain ⟨h1, h2⟩ := part_at hp hxs hx ⟨hqo.2.2.1, hqo.2.2.2⟩
  have R := rl_ok (p := p) (by omega) (others (pts.map (·.1)) q.1)
  have hol := others_len hs.nd hx
  rw [List.length_map] at hol
  generalize q.2 * ((prodR (others (pts.map (·.1)) q.1) q.1 % p) ^ (p - 2).toNat % p) % p = c at h1 h2 ⊢
  have hsl := scale_len p (rootLine p (others (pts.map (·.1)) q.1)) c
  have hpl := plus_len p f (scaleL p (rootLine p (others (pts.map (·.1)) q.1)) c)
  have hfl := hf.len
  have hRl := R.len
  refine ⟨InR.plus (by omega) _ _, tr_trim _, by omega, fun k r hr => ?_⟩
  have hfk := hf.done k r hr
  have hrm := List.mem_of_getElem? hr
  have hro := hs.ok r hrm
  rw [ev_pv, pv_plus, Int.add_emod, ← ev_pv, ← ev_pv, hfk]
  by_cases hk : k = i
  · subst hk
    rw [hq] at hr
    cases hr
    rw [h1, if_neg (by omega), if_pos (by omega), Int.zero_add, Int.emod_eq_of_lt hro.2.2.1 hro.2.2.2]
  · have hne : r.1 ≠ q.1 := fun e => by
      have hk1 : (pts.map (·.1))[k]? = some r.1 := by rw [List.getElem?_map, hr]; rfl
      have hi1 : (pts.map (·.1))[i]? = some q.1 := by rw [List.getElem?_map, hq]; rfl
      rw [e] at hk1
      have kl : k < (pts.map (·.1)).length := by
        rcases Nat.lt_or_ge k (pts.map (·.1)).length with h | h
        · exact h
        · rw [List.getElem?_eq_none h] at hk1; cases hk1
      exact hk ((List.getElem?_inj kl hs.nd).mp (hk1.trans hi1.symm))
    rw [h2 r.1 (List.mem_map.mpr ⟨r, hrm, rfl⟩) hne, Int.add_zero]
    by_cases h : k < i
    · rw [if_pos h, if_pos (by omega), Int.emod_eq_of_lt hro.2.2.1 hro.2.2.2]
    · rw [if_neg h, if_neg (by omega), Int.zero_emod]
theorem lag_end {p : Int} {pts : List (Int × Int)} {f : List Int} (h : Lag p pts pts.length f) : Thr p pts f := ⟨h.ok, h.tr, h.len, fun q hq => by
  obtain ⟨k, hk, e⟩ := List.mem_iff_getElem.mp hq
  have := h.done k q (by rw [List.getElem?_eq_getElem hk, e])
  rw [this, if_pos hk]⟩
end LM

set_option Elab.async false
set_option linter.all false
set_option maxRecDepth 100000
set_option maxHeartbeats 4000000
namespace LM
def rangeI (n : Int) : List Int := (List.range n.toNat).map fun k : Nat => (k : Int)
theorem mem_rangeI {p x : Int} : x ∈ rangeI p ↔ 0 ≤ x ∧ x < p := by
  unfold rangeI
  rw [List.mem_map]
  constructor
  · rintro ⟨k, hk, rfl⟩
    rw [List.mem_range] at hk
    omega
  · rintro ⟨h0, h1⟩
    exact ⟨x.toNat, List.mem_range.mpr (by omega), by omega⟩
theorem rangeI_len (p : Int) : (rangeI p).length = p.toNat := by unfold rangeI; rw [List.length_map, List.length_range]
theorem nodup_rangeI (p : Int) : (rangeI p).Nodup := by
  unfold rangeI
  rw [List.nodup_iff_pairwise_ne, List.pairwise_map]
  exact (List.nodup_range (n := p.toNat)).imp fun {a b} h e => h (by omega)
def rowsP (p : Int) : Nat → List (List Int)
  | 0 => [[]]
  | n + 1 => (rowsP p n).flatMap fun r => (rangeI p).map fun x => r ++ [x]
theorem mem_rowsP {p : Int} : ∀ (n : Nat) (r : List Int), r ∈ rowsP p n ↔ r.length = n ∧ InR p r
  | 0, r => by
    rw [rowsP, List.mem_singleton]
    constructor
    · rintro rfl; exact ⟨rfl, fun a ha => nomatch ha⟩
    · rintro ⟨h, _⟩; exact List.eq_nil_of_length_eq_zero h
  | n + 1, r => by
    rw [rowsP, List.mem_flatMap]
    constructor
    · rintro ⟨q, hq, hr⟩
      obtain ⟨x, hx, rfl⟩ := List.mem_map.mp hr
      obtain ⟨h1, h2⟩ := (mem_rowsP n q).mp hq
      refine ⟨by rw [List.length_append, h1]; rfl, h2.app fun b hb => ?_⟩
      rw [List.mem_singleton] at hb
      rw [hb]; exact mem_rangeI.mp hx
    · rintro ⟨hl, hi⟩
      rcases List.eq_nil_or_concat r with e | ⟨zs, a, e⟩
      · rw [e] at hl; simp at hl
      · rw [List.concat_eq_append] at e
        subst e
        refine ⟨zs, (mem_rowsP n zs).mpr ⟨by simpa using hl, fun b hb => hi b (List.mem_append_left _ hb)⟩, List.mem_map.mpr ⟨a, mem_rangeI.mpr (hi a (by simp)), rfl⟩⟩
theorem nodup_rowsP (p : Int) : ∀ n : Nat, (rowsP p n).Nodup
  | 0 => by rw [rowsP]; simp
  | n + 1 => by
    rw [rowsP, List.flatMap_def, List.nodup_iff_pairwise_ne, List.pairwise_flatten]
    refine ⟨fun l hl => ?_, ?_⟩
    · obtain ⟨r, _, rfl⟩ := List.mem_map.mp hl
      rw [List.pairwise_map]
      exact (List.nodup_iff_pairwise_ne.mp (nodup_rangeI p)).imp fun {a b} h e => h (by simpa using e)
    · rw [List.pairwise_map]
      refine (List.nodup_iff_pairwise_ne.mp (nodup_rowsP p n)).imp fun {a b} h x hx y hy e => ?_
      obtain ⟨u, _, rfl⟩ := List.mem_map.mp hx
      obtain ⟨v, _, rfl⟩ := List.mem_map.mp hy
      have := List.append_inj' e rfl
      exact h this.1
theorem rowsP_len (p : Int) : ∀ n : Nat, (rowsP p n).length = p.toNat ^ n
  | 0 => rfl
  | n + 1 => by
    rw [rowsP, List.length_flatMap]
    simp only [List.length_map, rangeI_len]
    rw [List.map_const', List.sum_replicate_nat, rowsP_len p n, Nat.pow_succ]
theorem sub_len {α : Type} [DecidableEq α] : ∀ (l1 l2 : List α), l1.Nodup → (∀ x ∈ l1, x ∈ l2) → l1.length ≤ l2.length
  | [], _, _, _ => Nat.zero_le _
  | x :: l1, l2, hn, h => by
    rw [List.nodup_cons] at hn
    have hx := h x (List.mem_cons_self ..)
    have := sub_len l1 (l2.erase x) hn.2 fun y hy => (List.mem_erase_of_ne (fun e => hn.1 (by rw [← e]; exact hy))).mpr (h y (List.mem_cons_of_mem _ hy))
    rw [List.length_erase_of_mem hx] at this
    have : 0 < l2.length := List.length_pos_of_mem hx
    rw [List.length_cons]; omega
theorem inj_len {α β : Type} [DecidableEq β] {l1 : List α} {l2 : List β} (f : α → β) (hn : l1.Nodup) (hm : ∀ x ∈ l1, f x ∈ l2) (hi : ∀ x ∈ l1, ∀ y ∈ l1, f x = f y → x = y) : l1.length ≤ l2.length := by
  rw [← List.length_map (f := f)]
  refine sub_len _ _ ?_ fun y hy => ?_
  · rw [List.nodup_iff_pairwise_ne, List.pairwise_map]
    rw [List.nodup_iff_pairwise_ne] at hn
    exact (List.Pairwise.and_mem.mp hn).imp fun {a b} h e => h.2.2 (hi a h.1 b h.2.1 e)
  · obtain ⟨x, hx, rfl⟩ := List.mem_map.mp hy
    exact hm x hx
def fits (p : Int) (pts : List (Int × Int)) (r : List Int) : Bool := pts.all fun q => ev p r q.1 == q.2
theorem fits_iff {p : Int} {pts : List (Int × Int)} {r : List Int} : fits p pts r = true ↔ Fit p pts r := by
  unfold fits Fit
  rw [List.all_eq_true]
  exact ⟨fun h q hq => beq_iff_eq.mp (h q hq), fun h q hq => beq_iff_eq.mpr (h q hq)⟩
theorem thr_exists {p : Int} (hp : primeB p = true) {pts : List (Int × Int)} (hs : Pts p pts) : ∃ f, Thr p pts f := by
  have : ∀ i, i ≤ pts.length → ∃ f, Lag p pts i f := by
    intro i
    induction i with
    | zero => exact fun _ => ⟨[], lag_zero p pts⟩
    | succ i ih =>
      intro h
      obtain ⟨f, hf⟩ := ih (by omega)
      exact ⟨_, lag_step hp hs (List.getElem?_eq_getElem (show i < pts.length by omega)) hf⟩
  obtain ⟨f, hf⟩ := this _ (Nat.le_refl _)
  exact ⟨f, lag_end hf⟩
/-- rows that agree at as many numbers as they are long are one -/
theorem rows_one {p : Int} (hp : primeB p = true) {r s : List Int} {n : Nat} (hr : InR p r) (hs : InR p s) (lr : r.length = n) (ls : s.length = n) {xs : List Int} (hn : xs.Nodup) (hl : n ≤ xs.length) (hx : ∀ x ∈ xs, 0 ≤ x ∧ x < p ∧ ev p r x = ev p s x) : r = s := by
  have e : trim r = trim s := agree_line hp hr.trim hs.trim (tr_trim r) (tr_trim s) (n := n) (by have := trim_len r; omega) (by have := trim_len s; omega) hn hl fun x h => by
    obtain ⟨h0, h1, h2⟩ := hx x h
    exact ⟨h0, h1, by rw [ev_trim, ev_trim]; exact h2⟩
  refine List.ext_getElem (by omega) fun k k1 k2 => ?_
  have h1 := getD_trim r k
  have h2 := getD_trim s k
  rw [e, h2] at h1
  rw [List.getD_eq_getElem?_getD, List.getD_eq_getElem?_getD, List.getElem?_eq_getElem k1, List.getElem?_eq_getElem k2] at h1
  exact h1.symm
theorem more_points {p : Int} (pts : List (Int × Int)) (n : Nat) (hn : pts.length + n ≤ p.toNat) : ∃ E : List Int, E.length = n ∧ E.Nodup ∧ ∀ x ∈ E, 0 ≤ x ∧ x < p ∧ x ∉ pts.map (·.1) := by
  have h1 : ((rangeI p).filter fun x => decide (x ∈ pts.map (·.1))).length ≤ pts.length := by
    rw [← List.length_map (as := pts) (f := (·.1))]
    exact sub_len _ _ ((nodup_rangeI p).filter _) fun x hx => of_decide_eq_true (List.mem_filter.mp hx).2
  have h2 : ((rangeI p).filter fun x => decide (x ∈ pts.map (·.1))).length + ((rangeI p).filter fun x => !decide (x ∈ pts.map (·.1))).length = p.toNat := by
    rw [← rangeI_len p]
    generalize rangeI p = l
    induction l with
    | nil => rfl
    | cons a l ih =>
      rw [List.filter_cons, List.filter_cons, List.length_cons]
      cases decide (a ∈ pts.map (·.1)) <;> simp <;> omega
  refine ⟨((rangeI p).filter fun x => !decide (x ∈ pts.map (·.1))).take n, by rw [List.length_take]; omega, ((nodup_rangeI p).filter _).sublist (List.take_sublist _ _), fun x hx => ?_⟩
  obtain ⟨h3, h4⟩ := List.mem_filter.mp (List.mem_of_mem_take hx)
  have := mem_rangeI.mp h3
  exact ⟨this.1, this.2, by simpa using h4⟩
theorem zip_fst {α β : Type} : ∀ (xs : List α) (ys : List β), xs.length = ys.length → (xs.zip ys).map (·.1) = xs
  | [], [], _ => rfl
  | x :: xs, y :: ys, h => by rw [List.zip_cons_cons, List.map_cons, zip_fst xs ys (by simpa using h)]
  | [], _ :: _, h => by simp at h
  | _ :: _, [], h => by simp at h
/-- the number of rows through points -/
theorem fit_count {p : Int} (hp : primeB p = true) {pts : List (Int × Int)} (hs : Pts p pts) {n : Nat} (hk : pts.length ≤ n) (hn : n ≤ p.toNat) : ((rowsP p n).filter (fits p pts)).length = p.toNat ^ (n - pts.length) := by
  obtain ⟨p3, p97⟩ := prime_p97 hp
  obtain ⟨E, hEl, hEn, hE⟩ := more_points (p := p) pts (n - pts.length) (by omega)
  have hall : (pts.map (·.1) ++ E).Nodup := by
    rw [List.nodup_append]
    exact ⟨hs.nd, hEn, fun a ha b hb e => (hE b hb).2.2 (e ▸ ha)⟩
  have hlen : (pts.map (·.1) ++ E).length = n := by rw [List.length_append, List.length_map]; omega
  rw [← rowsP_len p (n - pts.length)]
  refine Nat.le_antisymm ?_ ?_
  · refine inj_len (fun r => E.map (ev p r)) ((nodup_rowsP p n).filter _) (fun r hr => ?_) (fun r hr s hs2 e => ?_)
    · rw [mem_rowsP]
      refine ⟨by rw [List.length_map, hEl], fun a ha => ?_⟩
      obtain ⟨x, _, rfl⟩ := List.mem_map.mp ha
      exact ev_range (by omega) r x
    · obtain ⟨r1, r2⟩ := List.mem_filter.mp hr
      obtain ⟨s1, s2⟩ := List.mem_filter.mp hs2
      rw [mem_rowsP] at r1 s1
      rw [fits_iff] at r2 s2
      refine rows_one hp r1.2 s1.2 r1.1 s1.1 hall (by omega) fun x hx => ?_
      rcases List.mem_append.mp hx with hx | hx
      · obtain ⟨q, hq, rfl⟩ := List.mem_map.mp hx
        have := hs.ok q hq
        exact ⟨this.1, this.2.1, (r2 q hq).trans (s2 q hq).symm⟩
      · have h := hE x hx
        exact ⟨h.1, h.2.1, List.map_inj_left.mp e x hx⟩
  · -- from values to a row
    have pick : ∀ v ∈ rowsP p (n - pts.length), ∃ r, r.length = n ∧ InR p r ∧ Fit p pts r ∧ E.map (ev p r) = v := by
      intro v hv
      rw [mem_rowsP] at hv
      have hz := zip_fst E v (by omega)
      have hP : Pts p (pts ++ E.zip v) := by
        refine ⟨fun q hq => ?_, by rw [List.map_append, hz]; exact hall⟩
        rcases List.mem_append.mp hq with hq | hq
        · exact hs.ok q hq
        · obtain ⟨a, b⟩ := q
          obtain ⟨h1, h2⟩ := List.of_mem_zip hq
          have := hE a h1
          have := hv.2 b h2
          exact ⟨by omega, by omega, this.1, this.2⟩
      obtain ⟨f, hf⟩ := thr_exists hp hP
      have hfl := hf.len
      rw [List.length_append, List.length_zip] at hfl
      refine ⟨padTo n f, pad_len (by omega), hf.ok.pad (by omega) n, fun q hq => ?_, ?_⟩
      · rw [ev_pv, pv_pad, ← ev_pv]
        exact hf.fit q (List.mem_append_left _ hq)
      · refine List.ext_getElem (by rw [List.length_map]; omega) fun k k1 k2 => ?_
        rw [List.length_map] at k1
        rw [List.getElem_map, ev_pv, pv_pad, ← ev_pv]
        exact hf.fit (E[k], v[k]) (List.mem_append_right _ (by
          rw [List.mem_iff_getElem]
          exact ⟨k, by rw [List.length_zip]; omega, by rw [List.getElem_zip]⟩))
    refine inj_len (fun v => if hv : v ∈ rowsP p (n - pts.length) then (pick v hv).choose else []) (nodup_rowsP p _) (fun v hv => ?_) (fun v hv w hw e => ?_)
    · rw [dif_pos hv]
      obtain ⟨h1, h2, h3, _⟩ := (pick v hv).choose_spec
      exact List.mem_filter.mpr ⟨(mem_rowsP n _).mpr ⟨h1, h2⟩, fits_iff.mpr h3⟩
    · rw [dif_pos hv, dif_pos hw] at e
      have h1 := (pick v hv).choose_spec.2.2.2
      have h2 := (pick w hw).choose_spec.2.2.2
      rw [← h1, ← h2, e]
end LM

set_option Elab.async false
set_option linter.all false
set_option maxRecDepth 100000
set_option maxHeartbeats 4000000
namespace LM
theorem fits_trim {p : Int} {ps : List (Int × Int)} {r : List Int} : fits p ps (trim r) = fits p ps r := by
  unfold fits
  congr 1; funext q; rw [ev_trim]
theorem fits_cons {p : Int} {q : Int × Int} {ps : List (Int × Int)} {r : List Int} : fits p (q :: ps) r = ((ev p r q.1 == q.2) && fits p ps r) := by unfold fits; rw [List.all_cons]
theorem fits_app {p : Int} {ps qs : List (Int × Int)} {r : List Int} : fits p (ps ++ qs) r = (fits p ps r && fits p qs r) := by unfold fits; rw [List.all_append]
def fitL (p : Int) (ps : List (Int × Int)) (n : Nat) : List (List Int) := ((rowsP p n).map trim).filter (fits p ps)
theorem fitL_eq (p : Int) (ps : List (Int × Int)) (n : Nat) : fitL p ps n = ((rowsP p n).filter (fits p ps)).map trim := by
  unfold fitL
  rw [List.filter_map]
  congr 2; funext r; exact fits_trim
theorem fitL_more (p : Int) (ps : List (Int × Int)) (n : Nat) (x s : Int) : (fitL p ps n).filter (fun l => ev p l x == s) = fitL p ((x, s) :: ps) n := by
  unfold fitL
  rw [List.filter_filter]
  congr 1
theorem mem_fitL {p : Int} {ps : List (Int × Int)} {n : Nat} {f : List Int} : f ∈ fitL p ps n ↔ f.length ≤ n ∧ 0 ≤ n ∧ (∃ r ∈ rowsP p n, trim r = f) ∧ Fit p ps f := by
  unfold fitL
  rw [List.mem_filter, List.mem_map, fits_iff]
  constructor
  · rintro ⟨⟨r, hr, rfl⟩, h⟩
    have := (mem_rowsP n r).mp hr
    have := trim_len r
    exact ⟨by omega, by omega, ⟨r, hr, rfl⟩, h⟩
  · rintro ⟨_, _, ⟨r, hr, e⟩, h⟩
    exact ⟨⟨r, hr, e⟩, h⟩
theorem trim_pad {f : List Int} (h : Tr f) (n : Nat) : trim (padTo n f) = f := by unfold padTo; rw [trim_zeros, trim_of h]
theorem pad_row {p : Int} (hp : 0 < p) {f : List Int} (ho : InR p f) {n : Nat} (hl : f.length ≤ n) : padTo n f ∈ rowsP p n := (mem_rowsP n _).mpr ⟨pad_len hl, ho.pad hp n⟩
theorem mem_fitL_thr {p : Int} (hp : 0 < p) {ps : List (Int × Int)} {f : List Int} (h : Thr p ps f) {n : Nat} (hn : f.length ≤ n) : f ∈ fitL p ps n :=
  mem_fitL.mpr ⟨hn, Nat.zero_le _, ⟨_, pad_row hp h.ok hn, trim_pad h.tr n⟩, h.fit⟩
theorem fitL_thr {p : Int} {ps : List (Int × Int)} {n : Nat} {f : List Int} (h : f ∈ fitL p ps n) (hl : f.length ≤ ps.length) : Thr p ps f := by
  obtain ⟨h1, _, ⟨r, hr, rfl⟩, h2⟩ := mem_fitL.mp h
  have := (mem_rowsP n r).mp hr
  exact ⟨this.2.trim, tr_trim r, hl, h2⟩
theorem Pts.take {p : Int} {ps : List (Int × Int)} (h : Pts p ps) (n : Nat) : Pts p (ps.take n) := ⟨fun q hq => h.ok q (List.mem_of_mem_take hq), by rw [List.map_take]; exact h.nd.sublist (List.take_sublist _ _)⟩
/-- enough shares: one line or none -/
theorem fitL_one {p : Int} (hp : primeB p = true) {ps : List (Int × Int)} (hs : Pts p ps) {n : Nat} (hn : n ≤ ps.length) (hnp : n ≤ p.toNat) {f : List Int} (hf : Thr p (ps.take n) f) : fitL p ps n = if fits p ps f = true then [f] else [] := by
  have hl : (ps.take n).length = n := by rw [List.length_take]; omega
  have hc := fit_count hp (hs.take n) (n := n) (by omega) hnp
  rw [hl, Nat.sub_self, Nat.pow_zero] at hc
  obtain ⟨r, hr⟩ := List.length_eq_one_iff.mp hc
  have hm : r ∈ (rowsP p n).filter (fits p (ps.take n)) := by rw [hr]; simp
  obtain ⟨hm1, hm2⟩ := List.mem_filter.mp hm
  have hrr := (mem_rowsP n r).mp hm1
  have e : trim r = f := thr_one hp (hs.take n) ⟨hrr.2.trim, tr_trim r, by have := trim_len r; omega, fits_iff.mp (by rw [fits_trim]; exact hm2)⟩ hf
  have e2 : fits p ps f = fits p ps r := by rw [← e, fits_trim]
  rw [fitL_eq]
  have e3 : (rowsP p n).filter (fits p ps) = [r].filter (fits p (ps.drop n)) := by
    rw [← hr, List.filter_filter]
    congr 1; funext q
    conv => lhs; rw [← List.take_append_drop n ps]
    rw [fits_app, Bool.and_comm]
  have e4 : fits p ps r = fits p (ps.drop n) r := by
    conv => lhs; rw [← List.take_append_drop n ps]
    rw [fits_app, hm2, Bool.true_and]
  rw [e3, e2, e4]
  cases hb : fits p (ps.drop n) r with
  | true => rw [List.filter_cons_of_pos hb]; simp [e]
  | false => rw [List.filter_cons_of_neg (by rw [hb]; simp)]; simp
def lawLeft (p : Int) (n : Nat) (ps : List (Int × Int)) : List Int := (rangeI p).map fun s => (((fitL p ps n).filter fun l => ev p l 0 == s).length : Int)
def leftL (p : Int) (n : Nat) (ps : List (Int × Int)) (f : List Int) : List Int :=
  if n ≤ ps.length then (rangeI p).map fun s => if fits p ps f = true ∧ ev p f 0 = s then 1 else 0
  else List.replicate p.toNat (p ^ (n - 1 - ps.length))
theorem Pts.cons {p : Int} {ps : List (Int × Int)} (h : Pts p ps) {x s : Int} (hx : 0 ≤ x ∧ x < p) (hs : 0 ≤ s ∧ s < p) (hn : x ∉ ps.map (·.1)) : Pts p ((x, s) :: ps) := by
  refine ⟨fun q hq => ?_, ?_⟩
  · rcases List.mem_cons.mp hq with rfl | hq
    · exact ⟨hx.1, hx.2, hs.1, hs.2⟩
    · exact h.ok q hq
  · rw [List.map_cons, List.nodup_cons]; exact ⟨hn, h.nd⟩
theorem left_eq {p : Int} (hp : primeB p = true) {ps : List (Int × Int)} (hs : Pts p ps) (h0 : (0 : Int) ∉ ps.map (·.1)) {n : Nat} (hnp : n ≤ p.toNat) {f : List Int} (hf : Thr p (ps.take n) f) : lawLeft p n ps = leftL p n ps f := by
  obtain ⟨p3, p97⟩ := prime_p97 hp
  unfold lawLeft leftL
  split
  · rename_i hn
    refine List.map_congr_left fun s _ => ?_
    rw [fitL_one hp hs hn hnp hf]
    cases hb : fits p ps f with
    | false => simp
    | true =>
      rw [if_pos rfl]
      by_cases he : ev p f 0 = s
      · rw [List.filter_cons_of_pos (by simp [he])]; simp [he]
      · rw [List.filter_cons_of_neg (by simp [he])]; simp [he]
  · rename_i hn
    refine List.ext_getElem (by rw [List.length_map, rangeI_len, List.length_replicate]) fun k k1 k2 => ?_
    rw [List.length_map, rangeI_len] at k1
    rw [List.getElem_map, List.getElem_replicate]
    have hm : (rangeI p)[k]'(by rw [rangeI_len]; exact k1) ∈ rangeI p := List.getElem_mem _
    generalize (rangeI p)[k]'(by rw [rangeI_len]; exact k1) = s at hm
    have hsr := mem_rangeI.mp hm
    rw [fitL_more, fitL_eq, List.length_map, fit_count hp (hs.cons ⟨by omega, by omega⟩ hsr h0) (by rw [List.length_cons]; omega) hnp, List.length_cons, show n - (ps.length + 1) = n - 1 - ps.length by omega, Int.natCast_pow, Int.toNat_of_nonneg (by omega)]
/-- the line of the least degree among those left -/
theorem least_ok {p : Int} (hp : primeB p = true) {ps : List (Int × Int)} (hs : Pts p ps) {n : Nat} (hnp : n ≤ p.toNat) {f : List Int} (hf : Thr p (ps.take n) f) :
    (fits p ps f = false → fitL p ps n = []) ∧ (fits p ps f = true → f ∈ fitL p ps n ∧ ∀ g ∈ fitL p ps n, f.length ≤ g.length ∧ (g.length = f.length → g = f)) := by
  obtain ⟨p3, p97⟩ := prime_p97 hp
  rcases Nat.lt_or_ge ps.length n with h | h
  · have e : ps.take n = ps := List.take_of_length_le (by omega)
    rw [e] at hf
    have hfit : fits p ps f = true := fits_iff.mpr hf.fit
    refine ⟨fun hb => (by rw [hfit] at hb; cases hb), fun _ => ⟨mem_fitL_thr (by omega) hf (by have := hf.len; omega), fun g hg => ?_⟩⟩
    have key : g.length ≤ f.length → g = f := fun hl => thr_one hp hs (fitL_thr hg (by have := hf.len; omega)) hf
    rcases Nat.lt_or_ge g.length f.length with hl | hl
    · have := key (by omega); subst this; omega
    · exact ⟨hl, fun e => key (by omega)⟩
  · rw [fitL_one hp hs h hnp hf]
    refine ⟨fun hb => (by rw [hb]; simp), fun hb => ?_⟩
    rw [hb, if_pos rfl]
    refine ⟨by simp, fun g hg => ?_⟩
    simp at hg
    subst hg
    exact ⟨Nat.le_refl _, fun _ => rfl⟩
theorem filter_all_eq {α : Type} {l : List α} {q : α → Bool} {f : α} (hf : f ∈ l) (hq : q f = true) (h : ∀ g ∈ l, q g = true → g = f) : ∃ t, l.filter q = f :: t := by
  cases hl : l.filter q with
  | nil =>
    have := List.mem_filter.mpr ⟨hf, hq⟩
    rw [hl] at this; cases this
  | cons x t =>
    have : x ∈ l.filter q := by rw [hl]; simp
    obtain ⟨h1, h2⟩ := List.mem_filter.mp this
    rw [h x h1 h2]; exact ⟨t, rfl⟩
end LM

set_option Elab.async false
set_option linter.all false
set_option maxRecDepth 100000
set_option maxHeartbeats 4000000
namespace LM
theorem pv_add0 (f g : List Int) (x : Int) : pv (plusL 0 f g) x = pv f x + pv g x := by have := pv_plus 0 f g x; rwa [Int.emod_zero, Int.emod_zero] at this
theorem pv_mul0 (f g : List Int) (x : Int) : pv (mulL 0 f g) x = pv f x * pv g x := by have := pv_mul 0 f g x; rwa [Int.emod_zero, Int.emod_zero] at this
theorem pv_scale0 (f : List Int) (c x : Int) : pv (scaleL 0 f c) x = pv f x * c := by have := pv_scale 0 f c x; rwa [Int.emod_zero, Int.emod_zero] at this
theorem pv_mono (k : Nat) (c x : Int) : pv (List.replicate k 0 ++ [c]) x = c * x ^ k := by
  rw [pv_append, pv_zeros, List.length_replicate, pv_cons, pv_nil, Int.zero_add, Int.zero_mul, Int.zero_add, Int.mul_comm]
/-- a list stands for a function, modulo p, coefficient by coefficient -/
def Rep (p : Int) (f : List Int) (F : Int → Int) : Prop := ∃ d : List Int, ∀ x, pv f x = F x + p * pv d x
/-- a function is a line's worth -/
def Poly (F : Int → Int) : Prop := ∃ g : List Int, ∀ x, pv g x = F x
/-- divisible by p -/
def Dv (p : Int) (F : Int → Int) : Prop := ∃ e : List Int, ∀ x, F x = p * pv e x
theorem Poly.add {F G : Int → Int} (h : Poly F) (k : Poly G) : Poly fun x => F x + G x := by
  obtain ⟨f, hf⟩ := h; obtain ⟨g, hg⟩ := k
  exact ⟨plusL 0 f g, fun x => by rw [pv_add0, hf, hg]⟩
theorem Poly.mul {F G : Int → Int} (h : Poly F) (k : Poly G) : Poly fun x => F x * G x := by
  obtain ⟨f, hf⟩ := h; obtain ⟨g, hg⟩ := k
  exact ⟨mulL 0 f g, fun x => by rw [pv_mul0, hf, hg]⟩
theorem Poly.const (c : Int) : Poly fun _ => c := ⟨[c], fun x => by rw [pv_cons, pv_nil]; show _ = c; omega⟩
theorem Poly.sub {F G : Int → Int} (h : Poly F) (k : Poly G) : Poly fun x => F x - G x := by
  obtain ⟨f, hf⟩ := h.add ((Poly.const (-1)).mul k)
  exact ⟨f, fun x => by rw [hf]; show F x + -1 * G x = F x - G x; omega⟩
theorem Poly.lin (r : Int) : Poly fun x => x - r := ⟨[-r, 1], fun x => by rw [pv_cons, pv_cons, pv_nil]; show _ = x - r; omega⟩
theorem Poly.prod : ∀ rs : List Int, Poly (prodR rs)
  | [] => by obtain ⟨f, hf⟩ := Poly.const 1; exact ⟨f, fun x => by rw [hf, prodR]⟩
  | r :: rs => by obtain ⟨f, hf⟩ := (Poly.lin r).mul (Poly.prod rs); exact ⟨f, fun x => by rw [hf, prodR]⟩
theorem emod_sub (a p : Int) : a % p = a + p * (-(a / p)) := by have := Int.emod_add_mul_ediv a p; rw [Int.mul_neg]; omega
theorem zip_rep (p : Int) : ∀ (xs ys : List Int), xs.length = ys.length → ∃ d : List Int, ∀ x, pv (List.zipWith (fun a b => (a + b) % p) xs ys) x = pv xs x + pv ys x + p * pv d x
  | [], [], _ => ⟨[], fun x => by simp [pv_nil]⟩
  | a :: xs, b :: ys, h => by
    obtain ⟨d, hd⟩ := zip_rep p xs ys (by simpa using h)
    refine ⟨(-((a + b) / p)) :: d, fun x => ?_⟩
    rw [List.zipWith_cons_cons, pv_cons, pv_cons, pv_cons, pv_cons, hd, emod_sub]
    grind
  | [], _ :: _, h => by simp at h
  | _ :: _, [], h => by simp at h
theorem plus_rep (p : Int) (f g : List Int) : ∃ d : List Int, ∀ x, pv (plusL p f g) x = pv f x + pv g x + p * pv d x := by
  obtain ⟨d, hd⟩ := zip_rep p (padTo (max f.length g.length) f) (padTo (max f.length g.length) g) (by rw [pad_len (Nat.le_max_left ..), pad_len (Nat.le_max_right ..)])
  refine ⟨d, fun x => ?_⟩
  unfold plusL addM
  rw [pv_trim, hd, pv_pad, pv_pad]
theorem map_rep (p c : Int) : ∀ xs : List Int, ∃ d : List Int, ∀ x, pv (xs.map fun a => a * c % p) x = pv xs x * c + p * pv d x
  | [] => ⟨[], fun x => by simp [pv_nil]⟩
  | a :: xs => by
    obtain ⟨d, hd⟩ := map_rep p c xs
    refine ⟨(-(a * c / p)) :: d, fun x => ?_⟩
    rw [List.map_cons, pv_cons, pv_cons, pv_cons, hd, emod_sub]
    grind
theorem scale_rep (p : Int) (f : List Int) (c : Int) : ∃ d : List Int, ∀ x, pv (scaleL p f c) x = pv f x * c + p * pv d x := by
  obtain ⟨d, hd⟩ := map_rep p c f
  exact ⟨d, fun x => by unfold scaleL; rw [pv_trim, hd]⟩
theorem inner_rep (p a : Int) (i : Nat) : ∀ (ys : List Int) (j : Nat) (acc : List Int), i + j + ys.length ≤ acc.length → ∃ d : List Int, ∀ x, pv (inner p a i ys j acc) x = pv acc x + a * x ^ (i + j) * pv ys x + p * pv d x
  | [], _, acc, _ => ⟨[], fun x => by rw [inner, pv_nil]; omega⟩
  | b :: ys, j, acc, h => by
    rw [List.length_cons] at h
    obtain ⟨d, hd⟩ := inner_rep p a i ys (j + 1) (acc.set (i + j) ((acc.getD (i + j) 0 + a * b) % p)) (by rw [List.length_set]; omega)
    refine ⟨plusL 0 d (List.replicate (i + j) 0 ++ [-((acc.getD (i + j) 0 + a * b) / p)]), fun x => ?_⟩
    rw [inner, hd, pv_set x acc (i + j) _ (by omega), pv_add0, pv_mono, pv_cons, emod_sub, show i + (j + 1) = (i + j) + 1 by omega, Int.pow_succ]
    grind
theorem outer_rep (p : Int) (ys : List Int) : ∀ (xs : List Int) (i : Nat) (acc : List Int), (xs = [] ∨ i + xs.length + ys.length ≤ acc.length + 1) → ∃ d : List Int, ∀ x, pv (outer p ys xs i acc) x = pv acc x + x ^ i * pv xs x * pv ys x + p * pv d x
  | [], _, acc, _ => ⟨[], fun x => by rw [outer, pv_nil, Int.mul_zero, Int.zero_mul, Int.mul_zero]; omega⟩
  | a :: xs, i, acc, h => by
    rcases h with h | h
    · cases h
    rw [List.length_cons] at h
    obtain ⟨d1, h1⟩ := inner_rep p a i ys 0 acc (by omega)
    obtain ⟨d2, h2⟩ := outer_rep p ys xs (i + 1) (inner p a i ys 0 acc) (by rw [inner_len]; right; omega)
    refine ⟨plusL 0 d1 d2, fun x => ?_⟩
    rw [outer, h2, h1, pv_cons, pv_add0, Nat.add_zero, Int.pow_succ]
    grind
theorem mul_rep (p : Int) (f g : List Int) : ∃ d : List Int, ∀ x, pv (mulL p f g) x = pv f x * pv g x + p * pv d x := by
  obtain ⟨d, hd⟩ := outer_rep p g f 0 (List.replicate (f.length + g.length - 1) 0) (by
    rw [List.length_replicate]
    cases f with
    | nil => left; rfl
    | cons => right; simp only [List.length_cons]; omega)
  refine ⟨d, fun x => ?_⟩
  unfold mulL
  rw [pv_trim, hd, pv_zeros, Int.pow_zero, Int.one_mul]
  omega
theorem Rep.plus {p : Int} {f g : List Int} {F G : Int → Int} (h : Rep p f F) (k : Rep p g G) : Rep p (plusL p f g) fun x => F x + G x := by
  obtain ⟨d, hd⟩ := h; obtain ⟨e, he⟩ := k; obtain ⟨c, hc⟩ := plus_rep p f g
  refine ⟨plusL 0 (plusL 0 d e) c, fun x => ?_⟩
  rw [hc, hd, he, pv_add0, pv_add0]; grind
theorem Rep.scale {p : Int} {f : List Int} {F : Int → Int} (h : Rep p f F) (c : Int) : Rep p (scaleL p f c) fun x => F x * c := by
  obtain ⟨d, hd⟩ := h; obtain ⟨e, he⟩ := scale_rep p f c
  refine ⟨plusL 0 (scaleL 0 d c) e, fun x => ?_⟩
  rw [he, hd, pv_add0, pv_scale0]; grind
theorem Rep.mul {p : Int} {f g : List Int} {F G : Int → Int} (h : Rep p f F) (k : Rep p g G) (hF : Poly F) (hG : Poly G) : Rep p (mulL p f g) fun x => F x * G x := by
  obtain ⟨d, hd⟩ := h; obtain ⟨e, he⟩ := k; obtain ⟨c, hc⟩ := mul_rep p f g
  obtain ⟨a, ha⟩ := hF; obtain ⟨b, hb⟩ := hG
  refine ⟨plusL 0 (plusL 0 (mulL 0 d b) (mulL 0 a e)) (plusL 0 (scaleL 0 (mulL 0 d e) p) c), fun x => ?_⟩
  rw [hc, hd, he, pv_add0, pv_add0, pv_add0, pv_mul0, pv_mul0, pv_scale0, pv_mul0, ha, hb]; grind
theorem Rep.congr {p : Int} {f : List Int} {F G : Int → Int} (h : Rep p f F) (e : ∀ x, F x = G x) : Rep p f G := by
  obtain ⟨d, hd⟩ := h; exact ⟨d, fun x => by rw [hd, e]⟩
theorem Rep.nil (p : Int) : Rep p [] fun _ => 0 := ⟨[], fun x => by rw [pv_nil]; show 0 = 0 + p * 0; omega⟩
theorem rl_rep (p : Int) : ∀ rs : List Int, Rep p (rootLine p rs) (prodR rs) := by
  intro rs
  have : ∀ (rs : List Int) (f : List Int) (F : Int → Int), Rep p f F → Poly F → Rep p (rs.foldl (fun f x => mulL p f [(0 - x) % p, 1]) f) fun x => F x * prodR rs x := by
    intro rs
    induction rs with
    | nil => intro f F h _; exact h.congr fun x => by rw [prodR, Int.mul_one]
    | cons r rs ih =>
      intro f F h hF
      have hl : Rep p [(0 - r) % p, 1] fun x => x - r := ⟨[-((0 - r) / p)], fun x => by rw [pv_cons, pv_cons, pv_nil, pv_cons, pv_nil, emod_sub]; grind⟩
      refine (ih _ _ (h.mul hl hF (Poly.lin r)) (hF.mul (Poly.lin r))).congr fun x => ?_
      rw [prodR]; grind
  refine (this rs [1] (fun _ => 1) ⟨[], fun x => by rw [pv_cons, pv_nil]; show 0 * x + 1 = 1 + p * 0; omega⟩ (Poly.const 1)).congr fun x => Int.one_mul _
theorem zero_large : ∀ (c : List Int) (N : Int), (∀ x, N < x → pv c x = 0) → ∀ k, c.getD k 0 = 0
  | [], _, _, k => by simp
  | a :: c, N, h, k => by
    have h0 : a = 0 := by
      have hx := h (max N 0 + a.natAbs + 1) (by omega)
      rw [pv_cons] at hx
      have hd : (max N 0 + a.natAbs + 1) ∣ a := ⟨-(pv c (max N 0 + a.natAbs + 1)), by rw [Int.mul_neg, Int.mul_comm]; omega⟩
      rcases Int.lt_trichotomy a 0 with ha | ha | ha
      · have := Int.le_of_dvd (show 0 < -a by omega) (Int.dvd_neg.mpr hd); omega
      · exact ha
      · have := Int.le_of_dvd ha hd; omega
    subst h0
    cases k with
    | zero => rfl
    | succ k =>
      rw [List.getD_cons_succ]
      refine zero_large c (max N 0) (fun x hx => ?_) k
      have := h x (by omega)
      rw [pv_cons, Int.add_zero] at this
      rcases Int.mul_eq_zero.mp this with e | e
      · exact e
      · omega
theorem pv_noughts : ∀ (c : List Int), (∀ k, c.getD k 0 = 0) → ∀ x, pv c x = 0
  | [], _, x => rfl
  | a :: c, h, x => by
    have h0 : a = 0 := h 0
    rw [pv_cons, pv_noughts c (fun k => h (k + 1)) x, h0]; omega
theorem Poly.zero {F : Int → Int} (h : Poly F) {N : Int} (k : ∀ x, N < x → F x = 0) (x : Int) : F x = 0 := by
  obtain ⟨f, hf⟩ := h
  rw [← hf]
  exact pv_noughts f (zero_large f N fun x hx => by rw [hf]; exact k x hx) x
theorem Dv.cancel {p r : Int} (hp : p ≠ 0) {G : Int → Int} (hG : Poly G) (h : Dv p fun x => (x - r) * G x) : Dv p G := by
  obtain ⟨e, he⟩ := h
  have hr : pv e r = 0 := by
    have := he r
    dsimp only at this
    rw [Int.sub_self, Int.zero_mul] at this
    rcases Int.mul_eq_zero.mp this.symm with e | e
    · exact absurd e hp
    · exact e
  refine ⟨synth r e, fun x => ?_⟩
  have hz := (hG.sub ((Poly.const p).mul ⟨synth r e, fun x => rfl⟩)).zero (N := r) (fun x hx => by
    have h1 := he x
    have h2 := pv_synth r x e
    rw [hr, Int.add_zero] at h2
    rw [h2] at h1
    have : (x - r) * (G x - p * pv (synth r e) x) = 0 := by grind
    rcases Int.mul_eq_zero.mp this with e | e
    · omega
    · exact e) x
  omega
theorem Dv.cancels {p r : Int} (hp : p ≠ 0) {G : Int → Int} (hG : Poly G) : ∀ m : Nat, Dv p (fun x => (x - r) ^ m * G x) → Dv p G
  | 0, ⟨e, he⟩ => ⟨e, fun x => by have := he x; dsimp only at this; rwa [Int.pow_zero, Int.one_mul] at this⟩
  | m + 1, ⟨e, he⟩ => by
    have hP : Poly fun x => (x - r) ^ m * G x := by
      have : ∀ m : Nat, Poly fun x => (x - r) ^ m := fun m => by
        induction m with
        | zero => obtain ⟨f, hf⟩ := Poly.const 1; exact ⟨f, fun x => by rw [hf]; exact (Int.pow_zero _).symm⟩
        | succ m ih => obtain ⟨f, hf⟩ := ih.mul (Poly.lin r); exact ⟨f, fun x => by rw [hf]; exact (Int.pow_succ ..).symm⟩
      exact (this m).mul hG
    refine Dv.cancels hp hG m (Dv.cancel (r := r) hp hP ⟨e, fun x => ?_⟩)
    have := he x
    dsimp only at this ⊢
    rw [← this, Int.pow_succ]; grind
theorem Dv.at {p : Int} {F : Int → Int} (h : Dv p F) (x : Int) : F x % p = 0 := by
  obtain ⟨e, he⟩ := h
  rw [he, Int.mul_emod_right]
theorem rep_nil {p : Int} (hp : 0 < p) {f : List Int} {F : Int → Int} (hf : Rep p f F) (hi : InR p f) (ht : Tr f) (hP : Poly F) : f = [] ↔ Dv p F := by
  obtain ⟨d, hd⟩ := hf
  constructor
  · intro e
    subst e
    exact ⟨scaleL 0 d (-1), fun x => by have := hd x; rw [pv_nil] at this; rw [pv_scale0]; grind⟩
  · rintro ⟨e, he⟩
    have hz := zero_large (plusL 0 f (scaleL 0 (plusL 0 e d) (-p))) 0 fun x _ => by
      rw [pv_add0, pv_scale0, pv_add0, hd, he]; grind
    refine line_ext ht (fun a ha => nomatch ha) fun k => ?_
    have h1 := hz k
    rw [getD_plus, Int.emod_zero] at h1
    have h2 := getD_inr hp hi k
    have h3 : f.getD k 0 = p * (scaleL 0 (plusL 0 e d) 1).getD k 0 := by
      unfold scaleL at h1 ⊢
      rw [getD_trim, getD_map0, Int.emod_zero] at h1 ⊢
      grind
    generalize (scaleL 0 (plusL 0 e d) 1).getD k 0 = q at h3
    have h4 : q = 0 := by
      rcases Int.lt_trichotomy q 0 with h | h | h
      · have := Int.mul_le_mul_of_nonneg_left (show q ≤ -1 by omega) (show 0 ≤ p by omega); omega
      · exact h
      · have := Int.mul_le_mul_of_nonneg_left (show 1 ≤ q by omega) (show 0 ≤ p by omega); omega
    rw [h3, h4, Int.mul_zero]; rfl
end LM

set_option Elab.async false
set_option linter.all false
set_option maxRecDepth 100000
set_option maxHeartbeats 4000000
namespace LM
/-- the sum of parts by x less roots, times the product -/
def SP : List Int → List Int → Int → Int
  | c :: cs, r :: rs, x => c * prodR rs x + (x - r) * SP cs rs x
  | _, _, _ => 0
def ones (n : Nat) : List Int := List.replicate n 1
theorem Poly.sp : ∀ (cs rs : List Int), Poly (SP cs rs)
  | [], _ => by obtain ⟨f, hf⟩ := Poly.const 0; exact ⟨f, fun x => by rw [hf, SP]; simp⟩
  | _ :: _, [] => by obtain ⟨f, hf⟩ := Poly.const 0; exact ⟨f, fun x => by rw [hf, SP]; simp⟩
  | c :: cs, r :: rs => by
    obtain ⟨f, hf⟩ := ((Poly.const c).mul (Poly.prod rs)).add ((Poly.lin r).mul (Poly.sp cs rs))
    exact ⟨f, fun x => by rw [hf, SP]⟩
/-- the sum as it is reckoned -/
def sumL (p : Int) (cs rs : List Int) : List Int := (cs.zipIdx).foldl (fun f q => plusL p f (scaleL p (rootLine p (rs.eraseIdx q.2)) q.1)) []
def SPn (cs : List Int) (i : Nat) (rs : List Int) (x : Int) : Int := match cs with
  | [] => 0
  | c :: cs => c * prodR (rs.eraseIdx i) x + SPn cs (i + 1) rs x
theorem sumL_rep (p : Int) (rs : List Int) : ∀ (cs : List Int) (i : Nat) (f : List Int) (F : Int → Int), Rep p f F → Rep p ((cs.zipIdx i).foldl (fun f q => plusL p f (scaleL p (rootLine p (rs.eraseIdx q.2)) q.1)) f) fun x => F x + SPn cs i rs x
  | [], i, f, F, h => h.congr fun x => by simp [SPn]
  | c :: cs, i, f, F, h => by
    rw [List.zipIdx_cons, List.foldl_cons]
    refine (sumL_rep p rs cs (i + 1) _ _ (h.plus ((rl_rep p (rs.eraseIdx i)).scale c))).congr fun x => ?_
    rw [SPn]; grind
theorem SPn_cons (r : Int) (rs : List Int) (x : Int) : ∀ (cs : List Int) (i : Nat), SPn cs (i + 1) (r :: rs) x = (x - r) * SPn cs i rs x
  | [], i => by simp [SPn]
  | c :: cs, i => by
    rw [SPn, SPn, SPn_cons r rs x cs (i + 1), List.eraseIdx_cons_succ, prodR]; grind
theorem SPn_SP (x : Int) : ∀ (cs rs : List Int), cs.length = rs.length → SPn cs 0 rs x = SP cs rs x
  | [], [], _ => rfl
  | c :: cs, r :: rs, h => by
    rw [SPn, SPn_cons, SPn_SP x cs rs (by simpa using h), SP, List.eraseIdx_cons_zero]
  | [], _ :: _, h => by simp at h
  | _ :: _, [], h => by simp at h
theorem sum_rep (p : Int) {cs rs : List Int} (h : cs.length = rs.length) : Rep p (sumL p cs rs) (SP cs rs) :=
  (sumL_rep p rs cs 0 [] _ (Rep.nil p)).congr fun x => by rw [Int.zero_add, SPn_SP x cs rs h]
def dP (row : List Int) : Int → Int := SP (ones row.length) row
theorem dP_cons (r : Int) (row : List Int) (x : Int) : dP (r :: row) x = prodR row x + (x - r) * dP row x := by
  unfold dP ones
  rw [List.length_cons, List.replicate_succ, SP, Int.one_mul]
def rest (r : Int) (row : List Int) : List Int := row.filter fun a => !(a == r)
theorem prodR_out (r x : Int) : ∀ row : List Int, prodR row x = (x - r) ^ (row.count r) * prodR (rest r row) x
  | [] => by simp [prodR, rest]
  | a :: row => by
    have ih := prodR_out r x row
    unfold rest at *
    by_cases h : a = r
    · subst h
      rw [List.count_cons_self, List.filter_cons_of_neg (by simp), prodR, ih, Int.pow_succ]; grind
    · rw [List.count_cons_of_ne (fun e => h e), List.filter_cons_of_pos (by simp [h]), prodR, prodR, ih]; grind
theorem dP_out (r x : Int) : ∀ row : List Int, (x - r) * dP row x = (x - r) ^ (row.count r) * ((row.count r : Nat) * prodR (rest r row) x + (x - r) * dP (rest r row) x)
  | [] => by simp [dP, SP, rest]
  | a :: row => by
    have ih := dP_out r x row
    have hp := prodR_out r x row
    rw [dP_cons]
    unfold rest at *
    by_cases h : a = r
    · subst h
      rw [List.count_cons_self, List.filter_cons_of_neg (by simp), Int.pow_succ]
      have : (((row.count a + 1 : Nat)) : Int) = (row.count a : Nat) + 1 := by push_cast; rfl
      rw [this, hp, ih]; grind
    · rw [List.count_cons_of_ne (fun e => h e), List.filter_cons_of_pos (by simp [h]), prodR, dP_cons, hp]
      have e : (x - a) * ((x - r) * dP row x) = (x - a) * ((x - r) ^ (row.count r) * ((row.count r : Nat) * prodR (row.filter fun a => !(a == r)) x + (x - r) * dP (row.filter fun a => !(a == r)) x)) := by rw [ih]
      grind
theorem prodR_at (x : Int) : ∀ (rs : List Int) (i : Nat) (r : Int), rs[i]? = some r → prodR rs x = (x - r) * prodR (rs.eraseIdx i) x
  | [], _, _, h => by simp at h
  | a :: rs, 0, r, h => by simp at h; subst h; rw [prodR, List.eraseIdx_cons_zero]
  | a :: rs, i + 1, r, h => by
    rw [prodR, prodR_at x rs i r (by simpa using h), List.eraseIdx_cons_succ, prodR]; grind
theorem SP_at (x : Int) : ∀ (cs rs : List Int) (i : Nat) (c r : Int), cs[i]? = some c → rs[i]? = some r → SP cs rs x = c * prodR (rs.eraseIdx i) x + (x - r) * SP (cs.eraseIdx i) (rs.eraseIdx i) x
  | [], _, _, _, _, h, _ => by simp at h
  | _ :: _, [], _, _, _, _, h => by simp at h
  | a :: cs, b :: rs, 0, c, r, h, k => by
    simp at h k; subst h k
    rw [SP, List.eraseIdx_cons_zero, List.eraseIdx_cons_zero]
  | a :: cs, b :: rs, i + 1, c, r, h, k => by
    rw [SP, SP_at x cs rs i c r (by simpa using h) (by simpa using k), prodR_at x rs i r (by simpa using k), List.eraseIdx_cons_succ, List.eraseIdx_cons_succ, SP, prodR]; grind
theorem prodR_ne {p : Int} (hp : primeB p = true) {rs : List Int} (hr : InR p rs) {x : Int} (h0 : 0 ≤ x ∧ x < p) (h : x ∉ rs) : prodR rs x % p ≠ 0 := fun e => by
  obtain ⟨r, hm, e2⟩ := prodR_zero hp rs x e
  have := hr r hm
  exact h (sub_mod_eq h0.1 h0.2 this.1 this.2 e2 ▸ hm)
theorem rest_inr {p r : Int} {row : List Int} (h : InR p row) : InR p (rest r row) := fun a ha => h a (List.mem_filter.mp ha).1
theorem not_rest {r : Int} {row : List Int} : r ∉ rest r row := fun h => by have := (List.mem_filter.mp h).2; simp at this
theorem small_mod {p : Int} {m : Int} (h0 : 0 ≤ m) (h1 : m < p) (h : m % p = 0) : m = 0 := by rwa [Int.emod_eq_of_lt h0 h1] at h
theorem mul3 {p : Int} (hp : primeB p = true) {a b c : Int} (h : a * b * c % p = 0) (hb : b % p ≠ 0) (hc : c % p ≠ 0) : a % p = 0 := by
  rcases prime_mul hp h with h | h
  · rcases prime_mul hp h with h | h
    · exact h
    · exact absurd h hb
  · exact absurd h hc
def lackF (row lot counts : List Int) (x : Int) : Int := dP row x * prodR lot x - SP counts lot x * prodR row x
theorem Poly.lack (row lot counts : List Int) : Poly (lackF row lot counts) := ((Poly.sp _ _).mul (Poly.prod lot)).sub ((Poly.sp counts lot).mul (Poly.prod row))
theorem lack_right {row lot : List Int} (hl : lot.Nodup) (hr : ∀ r ∈ row, r ∈ lot) (x : Int) : lackF row lot (lot.map fun l => ((row.count l : Nat) : Int)) x = 0 := by
  induction row with
  | nil =>
    have : ∀ lot : List Int, SP (lot.map fun _ => (0 : Int)) lot x = 0 := by
      intro lot
      induction lot with
      | nil => rfl
      | cons a lot ih => rw [List.map_cons, SP, ih]; simp
    unfold lackF
    simp only [List.count_nil]
    rw [show ((0 : Nat) : Int) = 0 from rfl, this]
    simp [dP, SP]
  | cons r row ih =>
    have ih := ih fun a ha => hr a (List.mem_cons_of_mem _ ha)
    obtain ⟨i, hi, e⟩ := List.mem_iff_getElem.mp (hr r (List.mem_cons_self ..))
    have hir : lot[i]? = some r := by rw [List.getElem?_eq_getElem hi, e]
    unfold lackF at ih ⊢
    have key : SP (lot.map fun l => (((r :: row).count l : Nat) : Int)) lot x = SP (lot.map fun l => ((row.count l : Nat) : Int)) lot x + prodR (lot.eraseIdx i) x := by
      have h1 := SP_at x (lot.map fun l => (((r :: row).count l : Nat) : Int)) lot i ((row.count r : Nat) + 1) r (by rw [List.getElem?_map, hir]; simp) hir
      have h2 := SP_at x (lot.map fun l => ((row.count l : Nat) : Int)) lot i ((row.count r : Nat)) r (by rw [List.getElem?_map, hir]; simp) hir
      have e3 : (lot.map fun l => (((r :: row).count l : Nat) : Int)).eraseIdx i = (lot.map fun l => ((row.count l : Nat) : Int)).eraseIdx i := by
        have em : ∀ (f : Int → Int), (lot.map f).eraseIdx i = (lot.eraseIdx i).map f := fun f => by rw [List.eraseIdx_eq_take_drop_succ, List.eraseIdx_eq_take_drop_succ, List.map_append, List.map_take, List.map_drop]
        rw [em, em]
        refine List.map_congr_left fun l hm => ?_
        have hne : l ≠ r := fun e => by
          subst e
          obtain ⟨j, e⟩ := List.mem_iff_getElem?.mp hm
          rw [List.getElem?_eraseIdx] at e
          split at e
          · rename_i hlt
            have hjl : j < lot.length := by omega
            have := (List.getElem?_inj hjl hl).mp (e.trans hir.symm); omega
          · rename_i hlt
            have hjl : j + 1 < lot.length := by
              rcases Nat.lt_or_ge (j + 1) lot.length with h | h
              · exact h
              · rw [List.getElem?_eq_none h] at e; cases e
            have := (List.getElem?_inj hjl hl).mp (e.trans hir.symm); omega
        rw [List.count_cons_of_ne (fun e => hne e.symm)]
      rw [e3] at h1
      rw [h1, h2]; grind
    rw [key, dP_cons, prodR]
    have hB := prodR_at x lot i r hir
    grind
theorem lack_dv {p : Int} (hp : primeB p = true) {row lot counts : List Int} (hr : InR p row) (hl : InR p lot) (hc : InR p counts) (hn : lot.Nodup) (hlen : counts.length = lot.length) (hs : (row.length : Int) < p) :
    Dv p (lackF row lot counts) ↔ (∀ r ∈ row, r ∈ lot) ∧ counts = lot.map fun l => ((row.count l : Nat) : Int) := by
  obtain ⟨p3, p97⟩ := prime_p97 hp
  constructor
  · intro h
    refine ⟨fun r hm => ?_, ?_⟩
    · apply Classical.byContradiction
      intro hnl
      have hrr := hr r hm
      have G : Poly fun x => ((row.count r : Nat) * prodR (rest r row) x + (x - r) * dP (rest r row) x) * prodR lot x - (x - r) * (SP counts lot x * prodR (rest r row) x) :=
        ((((Poly.const _).mul (Poly.prod _)).add ((Poly.lin r).mul (Poly.sp _ _))).mul (Poly.prod lot)).sub ((Poly.lin r).mul ((Poly.sp counts lot).mul (Poly.prod _)))
      have hD : Dv p fun x => (x - r) ^ (row.count r) * (((row.count r : Nat) * prodR (rest r row) x + (x - r) * dP (rest r row) x) * prodR lot x - (x - r) * (SP counts lot x * prodR (rest r row) x)) := by
        obtain ⟨e, he⟩ := h
        refine ⟨mulL 0 [-r, 1] e, fun x => ?_⟩
        rw [pv_mul0, pv_cons, pv_cons, pv_nil]
        have h1 := he x
        unfold lackF at h1
        have h2 := dP_out r x row
        have h3 := prodR_out r x row
        have : (x - r) * (dP row x * prodR lot x - SP counts lot x * prodR row x) = (x - r) * (p * pv e x) := by rw [h1]
        grind
      have hz := (hD.cancels (by omega) G).at r
      rw [Int.sub_self, Int.zero_mul, Int.zero_mul, Int.add_zero, Int.sub_zero] at hz
      have hc := mul3 hp hz (prodR_ne hp (rest_inr hr) hrr not_rest) (prodR_ne hp hl hrr hnl)
      have h1 : 0 < row.count r := List.count_pos_iff.mpr hm
      have h2 : row.count r ≤ row.length := List.count_le_length
      have := small_mod (by omega) (by omega) hc
      omega
    · refine List.ext_getElem (by rw [List.length_map]; exact hlen) fun i k1 k2 => ?_
      rw [List.length_map] at k2
      rw [List.getElem_map]
      have hci : counts[i]? = some counts[i] := List.getElem?_eq_getElem k1
      have hli : lot[i]? = some lot[i] := List.getElem?_eq_getElem k2
      have hlr := hl _ (List.getElem_mem k2)
      have hcr := hc _ (List.getElem_mem k1)
      generalize counts[i] = c at hci hcr ⊢
      generalize lot[i] = r at hli hlr ⊢
      have G : Poly fun x => ((row.count r : Nat) * prodR (rest r row) x + (x - r) * dP (rest r row) x) * prodR (lot.eraseIdx i) x - (c * prodR (lot.eraseIdx i) x + (x - r) * SP (counts.eraseIdx i) (lot.eraseIdx i) x) * prodR (rest r row) x :=
        ((((Poly.const _).mul (Poly.prod _)).add ((Poly.lin r).mul (Poly.sp _ _))).mul (Poly.prod _)).sub ((((Poly.const _).mul (Poly.prod _)).add ((Poly.lin r).mul (Poly.sp _ _))).mul (Poly.prod _))
      have hD : Dv p fun x => (x - r) ^ (row.count r + 1) * (((row.count r : Nat) * prodR (rest r row) x + (x - r) * dP (rest r row) x) * prodR (lot.eraseIdx i) x - (c * prodR (lot.eraseIdx i) x + (x - r) * SP (counts.eraseIdx i) (lot.eraseIdx i) x) * prodR (rest r row) x) := by
        obtain ⟨e, he⟩ := h
        refine ⟨mulL 0 [-r, 1] e, fun x => ?_⟩
        dsimp only
        rw [pv_mul0, pv_cons, pv_cons, pv_nil, Int.pow_succ]
        have h1 := he x
        unfold lackF at h1
        have h2 := dP_out r x row
        have h3 := prodR_out r x row
        have h4 := prodR_at x lot i r hli
        have h5 := SP_at x counts lot i c r hci hli
        have : (x - r) * (dP row x * prodR lot x - SP counts lot x * prodR row x) = (x - r) * (p * pv e x) := by rw [h1]
        grind
      have hz := (hD.cancels (by omega) G).at r
      rw [Int.sub_self, Int.zero_mul, Int.zero_mul, Int.add_zero, Int.add_zero] at hz
      have hnl : r ∉ lot.eraseIdx i := fun hm => by
        obtain ⟨j, e⟩ := List.mem_iff_getElem?.mp hm
        rw [List.getElem?_eraseIdx] at e
        split at e
        · rename_i hlt
          have hjl : j < lot.length := by omega
          have := (List.getElem?_inj hjl hn).mp (e.trans hli.symm); omega
        · rename_i hlt
          have hjl : j + 1 < lot.length := by
            rcases Nat.lt_or_ge (j + 1) lot.length with h | h
            · exact h
            · rw [List.getElem?_eq_none h] at e; cases e
          have := (List.getElem?_inj hjl hn).mp (e.trans hli.symm); omega
      have hz2 : ((row.count r : Nat) - c) * prodR (rest r row) r * prodR (lot.eraseIdx i) r % p = 0 := by rw [← hz]; congr 1; grind
      have hc2 := mul3 hp hz2 (prodR_ne hp (rest_inr hr) hlr not_rest) (prodR_ne hp (fun a ha => hl a (List.mem_of_mem_eraseIdx ha)) hlr hnl)
      have h2 : row.count r ≤ row.length := List.count_le_length
      exact (sub_mod_eq (by omega) (by omega) hcr.1 hcr.2 hc2).symm
  · rintro ⟨h1, h2⟩
    refine ⟨[], fun x => ?_⟩
    rw [h2, lack_right hn h1, pv_nil, Int.mul_zero]
end LM

set_option Elab.async false
set_option linter.all false
set_option maxRecDepth 100000
set_option maxHeartbeats 4000000
namespace LM
def invS (p a : Int) : Int := a ^ (p - 2).toNat % p
/-- the sum of parts by x less roots, by inverses -/
def fS (p : Int) : List Int → List Int → Int → Int
  | c :: cs, r :: rs, x => c * invS p ((x - r) % p) + fS p cs rs x
  | _, _, _ => 0
theorem inv_step {p : Int} (hp : primeB p = true) {x r : Int} (hx : 0 ≤ x ∧ x < p) (hr : 0 ≤ r ∧ r < p) (hne : x ≠ r) : ∃ k, (x - r) * invS p ((x - r) % p) = 1 + p * k := by
  obtain ⟨p3, p97⟩ := prime_p97 hp
  have h0 := Int.emod_nonneg (x - r) (show p ≠ 0 by omega)
  have h1 := Int.emod_lt_of_pos (x - r) (show 0 < p by omega)
  have hz : (x - r) % p ≠ 0 := fun e => hne (sub_mod_eq hx.1 hx.2 hr.1 hr.2 e)
  have h := inv_ok hp (a := (x - r) % p) (by omega) h1
  unfold invS
  have e1 := emod_sub (x - r) p
  generalize (x - r) % p = a at *
  generalize (-((x - r) / p)) = q at *
  generalize a ^ (p - 2).toNat % p = i at *
  have e2 := Int.emod_add_mul_ediv (a * i) p
  rw [h] at e2
  exact ⟨a * i / p - q * i, by grind⟩
theorem SP_frac {p : Int} (hp : primeB p = true) {x : Int} (hx : 0 ≤ x ∧ x < p) : ∀ (cs rs : List Int), InR p rs → x ∉ rs → ∃ k, SP cs rs x = prodR rs x * fS p cs rs x + p * k
  | [], _, _, _ => ⟨0, by simp [SP, fS]⟩
  | _ :: _, [], _, _ => ⟨0, by simp [SP, fS]⟩
  | c :: cs, r :: rs, hr, hn => by
    obtain ⟨k, hk⟩ := SP_frac hp hx cs rs (fun a ha => hr a (List.mem_cons_of_mem _ ha)) (fun h => hn (List.mem_cons_of_mem _ h))
    obtain ⟨j, hj⟩ := inv_step hp hx (hr r (List.mem_cons_self ..)) (fun e => hn (by rw [e]; exact List.mem_cons_self ..))
    refine ⟨(x - r) * k - c * prodR rs x * j, ?_⟩
    rw [SP, fS, hk, prodR]
    grind
theorem lack_frac {p : Int} (hp : primeB p = true) {x : Int} (hx : 0 ≤ x ∧ x < p) {row lot counts : List Int} (hr : InR p row) (hl : InR p lot) (h1 : x ∉ row) (h2 : x ∉ lot) :
    lackF row lot counts x % p = 0 ↔ fS p (ones row.length) row x % p = fS p counts lot x % p := by
  obtain ⟨k, hk⟩ := SP_frac hp hx (ones row.length) row hr h1
  obtain ⟨j, hj⟩ := SP_frac hp hx counts lot hl h2
  have e : lackF row lot counts x = (fS p (ones row.length) row x - fS p counts lot x) * prodR row x * prodR lot x + p * (k * prodR lot x - j * prodR row x) := by
    unfold lackF dP
    rw [hk, hj]; grind
  rw [e, Int.add_mul_emod_self_left]
  constructor
  · intro h
    exact Int.emod_eq_emod_iff_emod_sub_eq_zero.mpr (mul3 hp h (prodR_ne hp hr hx h1) (prodR_ne hp hl hx h2))
  · intro h
    have := Int.emod_eq_emod_iff_emod_sub_eq_zero.mp h
    rw [Int.mul_assoc, Int.mul_emod, this, Int.zero_mul, Int.zero_emod]
def lackL (p : Int) (row lot counts : List Int) : List Int := plusL p (mulL p (sumL p (ones row.length) row) (rootLine p lot)) (scaleL p (mulL p (sumL p counts lot) (rootLine p row)) (p - 1))
theorem Rep.shift {p : Int} {f : List Int} {F G H : Int → Int} (h : Rep p f F) (hG : Poly G) (e : ∀ x, F x = H x + p * G x) : Rep p f H := by
  obtain ⟨d, hd⟩ := h; obtain ⟨g, hg⟩ := hG
  exact ⟨plusL 0 g d, fun x => by rw [hd, e, pv_add0, hg]; grind⟩
theorem lack_rep (p : Int) {row lot counts : List Int} (hl : counts.length = lot.length) : Rep p (lackL p row lot counts) (lackF row lot counts) := by
  have h1 := (sum_rep p (cs := ones row.length) (rs := row) (by unfold ones; rw [List.length_replicate])).mul (rl_rep p lot) (Poly.sp _ _) (Poly.prod _)
  have h2 := ((sum_rep p hl).mul (rl_rep p row) (Poly.sp _ _) (Poly.prod _)).scale (p - 1)
  refine (h1.plus h2).shift ((Poly.sp counts lot).mul (Poly.prod row)) fun x => ?_
  unfold lackF dP
  grind
theorem lack_inr {p : Int} (hp : 0 < p) (row lot counts : List Int) : InR p (lackL p row lot counts) := InR.plus hp _ _
theorem lack_nil {p : Int} (hp : primeB p = true) {row lot counts : List Int} (hr : InR p row) (hl : InR p lot) (hc : InR p counts) (hn : lot.Nodup) (hlen : counts.length = lot.length) (hs : (row.length : Int) < p) :
    lackL p row lot counts = [] ↔ (∀ r ∈ row, r ∈ lot) ∧ counts = lot.map fun l => ((row.count l : Nat) : Int) := by
  obtain ⟨p3, p97⟩ := prime_p97 hp
  rw [rep_nil (by omega) (lack_rep p hlen) (lack_inr (by omega) row lot counts) (tr_trim _) (Poly.lack ..), lack_dv hp hr hl hc hn hlen hs]
theorem Rep.ev {p : Int} {f : List Int} {F : Int → Int} (h : Rep p f F) (x : Int) : ev p f x = F x % p := by
  obtain ⟨d, hd⟩ := h
  rw [ev_pv, hd, Int.add_mul_emod_self_left]
theorem lack_root {p : Int} (hp : primeB p = true) {x : Int} (hx : 0 ≤ x ∧ x < p) {row lot counts : List Int} (hlen : counts.length = lot.length) (hr : InR p row) (hl : InR p lot) (h1 : x ∉ row) (h2 : x ∉ lot) :
    (ev p (lackL p row lot counts) x == 0) = (fS p (ones row.length) row x % p == fS p counts lot x % p) := by
  rw [Bool.eq_iff_iff, beq_iff_eq, beq_iff_eq, (lack_rep p hlen).ev, lack_frac hp hx hr hl h1 h2]
theorem rl_len {p : Int} (hp : 2 ≤ p) (rs : List Int) : (rootLine p rs).length = rs.length + 1 := (rl_ok hp rs).len
theorem sumL_len {p : Int} (hp : 2 ≤ p) (rs : List Int) : ∀ (cs : List Int) (i : Nat) (f : List Int), f.length ≤ rs.length → i + cs.length ≤ rs.length → ((cs.zipIdx i).foldl (fun f q => plusL p f (scaleL p (rootLine p (rs.eraseIdx q.2)) q.1)) f).length ≤ rs.length
  | [], i, f, h, _ => h
  | c :: cs, i, f, h, k => by
    rw [List.length_cons] at k
    rw [List.zipIdx_cons, List.foldl_cons]
    refine sumL_len hp rs cs (i + 1) _ ?_ (by omega)
    have h1 := plus_len p f (scaleL p (rootLine p (rs.eraseIdx i)) c)
    have h2 := scale_len p (rootLine p (rs.eraseIdx i)) c
    rw [rl_len hp, List.length_eraseIdx, if_pos (by omega)] at h2
    dsimp only
    omega
theorem sum_len {p : Int} (hp : 2 ≤ p) {cs rs : List Int} (h : cs.length = rs.length) : (sumL p cs rs).length ≤ rs.length := sumL_len hp rs cs 0 [] (Nat.zero_le _) (by omega)
theorem lack_len {p : Int} (hp : 2 ≤ p) {row lot counts : List Int} (hlen : counts.length = lot.length) : (lackL p row lot counts).length ≤ row.length + lot.length := by
  have a1 := sum_len hp (cs := ones row.length) (rs := row) (by unfold ones; rw [List.length_replicate])
  have a2 := sum_len hp hlen
  have b1 := mul_len p (sumL p (ones row.length) row) (rootLine p lot)
  have b2 := mul_len p (sumL p counts lot) (rootLine p row)
  have c1 := scale_len p (mulL p (sumL p counts lot) (rootLine p row)) (p - 1)
  have d1 := plus_len p (mulL p (sumL p (ones row.length) row) (rootLine p lot)) (scaleL p (mulL p (sumL p counts lot) (rootLine p row)) (p - 1))
  rw [rl_len hp] at b1 b2
  unfold lackL
  omega
theorem sumL_inr {p : Int} (hp : 0 < p) (rs : List Int) : ∀ (cs : List Int) (i : Nat) (f : List Int), InR p f → InR p ((cs.zipIdx i).foldl (fun f q => plusL p f (scaleL p (rootLine p (rs.eraseIdx q.2)) q.1)) f)
  | [], i, f, h => h
  | c :: cs, i, f, h => by
    rw [List.zipIdx_cons, List.foldl_cons]
    exact sumL_inr hp rs cs (i + 1) _ (InR.plus hp _ _)
theorem sum_inr {p : Int} (hp : 0 < p) (cs rs : List Int) : InR p (sumL p cs rs) := sumL_inr hp rs cs 0 [] fun a ha => nomatch ha
def prodAt (p : Int) (row : List Int) (x : Int) : Int := row.foldl (fun f n => f * (x - n) % p) 1
theorem prodAt_eq {p : Int} (hp : 2 ≤ p) (row : List Int) (x : Int) : prodAt p row x = prodR row x % p := by
  have : ∀ (row : List Int) (f : Int), 0 ≤ f → f < p → row.foldl (fun f n => f * (x - n) % p) f = f * prodR row x % p := by
    intro row
    induction row with
    | nil => intro f h0 h1; rw [prodR, Int.mul_one, Int.emod_eq_of_lt h0 h1]; rfl
    | cons n row ih =>
      intro f h0 h1
      rw [List.foldl_cons, ih _ (Int.emod_nonneg _ (by omega)) (Int.emod_lt_of_pos _ (by omega)), prodR, Int.mul_emod, Int.emod_emod_of_dvd _ (Int.dvd_refl p), ← Int.mul_emod, Int.mul_assoc]
  unfold prodAt
  rw [this row 1 (by decide) (by omega), Int.one_mul]
theorem prodR_perm {xs ys : List Int} (h : xs.Perm ys) (x : Int) : prodR xs x = prodR ys x := by
  induction h with
  | nil => rfl
  | cons a _ ih => rw [prodR, prodR, ih]
  | swap a b l => rw [prodR, prodR, prodR, prodR]; grind
  | trans _ _ h1 h2 => rw [h1, h2]
def spreadL (lot counts : List Int) : List Int := (lot.zip counts).flatMap fun q => List.replicate q.2.toNat q.1
theorem count_spread (a : Int) (f : Int → Nat) : ∀ lot : List Int, lot.Nodup → (spreadL lot (lot.map fun l => ((f l : Nat) : Int))).count a = if a ∈ lot then f a else 0
  | [], _ => by simp [spreadL]
  | l :: lot, h => by
    rw [List.nodup_cons] at h
    have ih := count_spread a f lot h.2
    unfold spreadL at ih ⊢
    rw [List.map_cons, List.zip_cons_cons, List.flatMap_cons, List.count_append, ih, List.count_replicate]
    by_cases e : l = a
    · subst e
      simp [h.1]
    · have e2 : a ≠ l := fun z => e z.symm
      simp [e, e2]
theorem spread_perm {row lot : List Int} (hn : lot.Nodup) (h : ∀ r ∈ row, r ∈ lot) : (spreadL lot (lot.map fun l => ((row.count l : Nat) : Int))).Perm row := by
  rw [List.perm_iff_count]
  intro a
  rw [count_spread a (fun l => row.count l) lot hn]
  split
  · rfl
  · rename_i hne
    rw [List.count_eq_zero.mpr fun hm => hne (h a hm)]
end LM

set_option Elab.async false
set_option linter.all false
set_option maxRecDepth 100000
set_option maxHeartbeats 4000000
namespace LW
open PySem PySem.Spec PyProof.Rows L2 DL
variable [TabsC]
def top (i : Nat) : Stmt := PySem.Challenge.pw_proofplay_k77_whole_rows_looked_up_besid.main.body.getD i (.Pass ⟨0, 0, 0, 0⟩)
abbrev veBM : List Value := [.type "ValueError", .type "Exception", .type "BaseException", .type "object"]
structure Bl (mg : Str → Option Value) : Prop where
  abs : mg "abs" = none
  all : mg "all" = none
  bool : mg "bool" = none
  enumerate : mg "enumerate" = none
  int : mg "int" = none
  isinstance : mg "isinstance" = none
  len : mg "len" = none
  list : mg "list" = none
  max : mg "max" = none
  range : mg "range" = none
  sorted : mg "sorted" = none
  str : mg "str" = none
  sum : mg "sum" = none
  tuple : mg "tuple" = none
  zip : mg "zip" = none
abbrev D_MOST_PRIME : D := .int 97
abbrev D_MOST_LONG_lines : D := .int 65
abbrev D_MOST_LONG_lookups : D := .int 20
abbrev D_MOST_LONG_checklots : D := .int 20
structure Consts (K : PySem.W.Frag) (mg : Str → Option Value) : Prop where
  cMOST_PRIME : ∃ u v, mg "MOST_PRIME" = some u ∧ RelV v u ∧ ∀ Hf Hh, Rp K Hf Hh v D_MOST_PRIME
  cMOST_LONG_lines : ∃ u v, mg "MOST_LONG_lines" = some u ∧ RelV v u ∧ ∀ Hf Hh, Rp K Hf Hh v D_MOST_LONG_lines
  cMOST_LONG_lookups : ∃ u v, mg "MOST_LONG_lookups" = some u ∧ RelV v u ∧ ∀ Hf Hh, Rp K Hf Hh v D_MOST_LONG_lookups
  cMOST_LONG_checklots : ∃ u v, mg "MOST_LONG_checklots" = some u ∧ RelV v u ∧ ∀ Hf Hh, Rp K Hf Hh v D_MOST_LONG_checklots
abbrev S__law_draw : SF := S_draw
open LM
abbrev nT (xs : List Int) : D := .tuple (xs.map D.int)
abbrev nL (xs : List Int) : D := .list (xs.map D.int)
abbrev pD (q : Int × Int) : D := .tuple [.int q.1, .int q.2]
abbrev psD (ps : List (Int × Int)) : D := .tuple (ps.map pD)
def isInt : D → Bool
  | .int _ => true
  | _ => false
def btw (d : D) (a b : Int) : Bool := match d with
  | .int i => decide (a ≤ i) && decide (i ≤ b)
  | _ => false

def isPrime : D → Bool
  | .int i => primeB i
  | _ => false
def pI : D → Int
  | .int i => i
  | _ => 0
abbrev P97 (p : Int) : Prop := 2 ≤ p ∧ p ≤ 97
def S_is_integer : SF := fun ds K _ => ∃ d, ds = [d] ∧ d.pd = true ∧ K (.bool (isInt d))
def S_is_between : SF := fun ds K _ => ∃ d a b, ds = [d, .int a, .int b] ∧ d.pd = true ∧ K (.bool (btw d a b))
def S_is_prime : SF := fun ds K _ => ∃ d, ds = [d] ∧ d.pd = true ∧ K (.bool (isPrime d))
def S_need_prime : SF := fun ds K X => ∃ d, ds = [d] ∧ d.pd = true ∧ if isPrime d = true then K .non else X "NoPrime"
def S_is_number : SF := fun ds K _ => ∃ p d, ds = [.int p, d] ∧ d.pd = true ∧ K (.bool (btw d 0 (p - 1)))
def S_power_of : SF := fun ds K _ => ∃ (p x : Int) (n : Nat), ds = [.int p, .int x, .int (n : Nat)] ∧ P97 p ∧ n ≤ 16777216 ∧ K (.int (x ^ n % p))
def S_trimmed : SF := fun ds K _ => ∃ t xs, ds = [t] ∧ (t = nT xs ∨ t = nL xs) ∧ K (nT (trim xs))
def S_plus_lines : SF := fun ds K _ => ∃ p xs ys, ds = [.int p, nT xs, nT ys] ∧ 0 < p ∧ xs.length ≤ 1000 ∧ ys.length ≤ 1000 ∧ K (nT (plusL p xs ys))
def S_times_lines : SF := fun ds K _ => ∃ p xs ys, ds = [.int p, nT xs, nT ys] ∧ P97 p ∧ InR p xs ∧ xs.length ≤ 1000 ∧ ys.length ≤ 1000 ∧ K (nT (mulL p xs ys))
def S_value_of : SF := fun ds K _ => ∃ p xs x, ds = [.int p, nT xs, .int x] ∧ P97 p ∧ K (.int (ev p xs x))
def rootsL (p : Int) (xs : List Int) : List Int := (rangeI p).filter fun x => ev p xs x == 0
def S_roots_of : SF := fun ds K _ => ∃ p xs, ds = [.int p, nT xs] ∧ P97 p ∧ K (nT (rootsL p xs))
def S_inverse_of : SF := fun ds K _ => ∃ p x, ds = [.int p, .int x] ∧ P97 p ∧ K (.int (x ^ (p - 2).toNat % p))
def S_scaled_line : SF := fun ds K _ => ∃ p xs c, ds = [.int p, nT xs, .int c] ∧ 0 < p ∧ -100 ≤ c ∧ c ≤ 100 ∧ K (nT (scaleL p xs c))
def S_line_of_roots : SF := fun ds K _ => ∃ p rs, ds = [.int p, nT rs] ∧ primeB p = true ∧ InR p rs ∧ rs.length < 65 ∧ K (nT (rootLine p rs))
def S_common : SF := fun ds K _ => ∃ a b : Int, ds = [.int a, .int b] ∧ 0 ≤ a ∧ 0 ≤ b ∧ K (.int (Int.gcd a b : Nat))
def frac (t b : Int) : D := .tuple [.int (t / (Int.gcd t b : Nat)), .int (b / (Int.gcd t b : Nat))]
def Wide (b : Int) : Prop := b.natAbs.log2 < 9000
def S_fraction : SF := fun ds K _ => ∃ t b : Int, ds = [.int t, .int b] ∧ 0 ≤ t ∧ 0 < b ∧ Wide b ∧ K (frac t b)
def S__law_gcd : SF := fun ds K _ => ∃ a b : Int, ds = [.int a, .int b] ∧ 0 ≤ a ∧ 0 ≤ b ∧ b < 19999 ∧ K (.int (Int.gcd a b : Nat))
def S__law_frac : SF := fun ds K _ => ∃ t b : Int, ds = [.int t, .int b] ∧ 0 ≤ t ∧ 0 < b ∧ b < 19999 ∧ K (frac t b)
def S__law_mixed : SF := fun ds K _ => ∃ a c t xs, ds = [.hnd a c, t] ∧ (t = .list xs ∨ t = .tuple xs) ∧ xs.length ≤ 1000 ∧ ∀ ys, ys.Perm xs → K (.list ys)
def S__law_hand : SF := fun ds K _ => ∃ ns, ds = [.scr ns] ∧ ∀ a c, K (.hnd a c)
def S__law_some : SF := fun ds K _ => ∃ a c t xs, ds = [.hnd a c, t] ∧ (t = .list xs ∨ t = .tuple xs) ∧ xs ≠ [] ∧ xs.length < 1073741824 ∧ ∀ x ∈ xs, K x
def S__law_numbers : SF := fun ds K _ => ∃ a c p n, ds = [.hnd a c, .int p, .int n] ∧ 0 < p ∧ p < 1073741824 ∧ 0 ≤ n ∧ n ≤ 1000 ∧ ∀ xs, InR p xs → (xs.length : Int) = n → K (nT xs)
def S_law : SF := fun ds K _ => ∃ ns, ds = [.scr ns] ∧ K (.bool true)
def KpN : Nat → D → Prop
  | 0, d => d = .non ∨ (∃ b, d = .bool b) ∨ (∃ i, d = .int i) ∨ (∃ x, d = .str x ∧ PyData.canLay0 (.str x) = true)
  | n + 1, d => (d = .non ∨ (∃ b, d = .bool b) ∨ (∃ i, d = .int i) ∨ (∃ x, d = .str x ∧ PyData.canLay0 (.str x) = true)) ∨ ∃ xs, (d = .list xs ∨ d = .tuple xs) ∧ xs.length ≤ 16777216 ∧ ∀ x ∈ xs, KpN n x
def S_keptN (n : Nat) : SF := fun ds K _ => ∃ d, ds = [d, d] ∧ KpN n d ∧ K (.bool true)
abbrev S__law_kept : SF := S_keptN 4
structure Lk (p : Int) (row lot : List Int) : Prop where
  hp : primeB p = true
  r : InR p row
  l : InR p lot
  rl : row.length ≤ 20
  ll : lot.length ≤ 20
  asc : lot.Pairwise (· < ·)
def S_need_rows_lookups : SF := fun ds K _ => ∃ p row lot, ds = [.int p, nT row, nT lot] ∧ Lk p row lot ∧ K .non
def strangeL (row lot : List Int) : List Int := (row.zipIdx.filter fun q => !decide (q.1 ∈ lot)).map fun q => (q.2 : Int)
def S_strange : SF := fun ds K _ => ∃ p row lot, ds = [.int p, nT row, nT lot] ∧ Lk p row lot ∧ K (nT (strangeL row lot))
def tallyL (row lot : List Int) : List Int := lot.map fun l => ((row.count l : Nat) : Int)
def S_tally : SF := fun ds K _ => ∃ p row lot, ds = [.int p, nT row, nT lot] ∧ Lk p row lot ∧ K (nT (tallyL row lot))
structure Ct (p : Int) (row lot counts : List Int) : Prop where
  lk : Lk p row lot
  c : InR p counts
  len : counts.length = lot.length
def S_need_counts : SF := fun ds K _ => ∃ p row lot counts, ds = [.int p, nT row, nT lot, nT counts] ∧ Ct p row lot counts ∧ K .non
def mineS (p : Int) (row : List Int) (x : Int) : Int := (row.map fun r => invS p ((x - r) % p)).sum
def theirS (p : Int) (lot counts : List Int) (x : Int) : Int := ((lot.zip counts).map fun q => q.2 * invS p ((x - q.1) % p)).sum
def canAsk (row lot : List Int) (x : Int) : Bool := !decide (x ∈ row) && !decide (x ∈ lot)
def agree (p : Int) (row lot counts : List Int) (x : Int) : Bool := mineS p row x % p == theirS p lot counts x % p
def S_sums_at : SF := fun ds K _ => ∃ p row lot counts x, ds = [.int p, nT row, nT lot, nT counts, .int x] ∧ Ct p row lot counts ∧ 0 ≤ x ∧ x < p ∧ K (if canAsk row lot x = true then .tuple [.int (mineS p row x % p), .int (theirS p lot counts x % p)] else .non)
def S_check_at : SF := fun ds K _ => ∃ p row lot counts x, ds = [.int p, nT row, nT lot, nT counts, .int x] ∧ Ct p row lot counts ∧ 0 ≤ x ∧ x < p ∧ K (if canAsk row lot x = true then .bool (agree p row lot counts x) else .non)
def askedL (p : Int) (row lot : List Int) : List Int := (rangeI p).filter (canAsk row lot)
def goodL (p : Int) (row lot counts : List Int) : List Int := (rangeI p).filter fun x => canAsk row lot x && agree p row lot counts x
def S_passing : SF := fun ds K _ => ∃ p row lot counts, ds = [.int p, nT row, nT lot, nT counts] ∧ Ct p row lot counts ∧ K (nT (goodL p row lot counts))
def shareD (a b : List Int) : D := if b = [] then .non else frac a.length b.length
def S_passing_share : SF := fun ds K _ => ∃ p row lot counts, ds = [.int p, nT row, nT lot, nT counts] ∧ Ct p row lot counts ∧ K (shareD (goodL p row lot counts) (askedL p row lot))
def S_sum_line : SF := fun ds K _ => ∃ p cs rs, ds = [.int p, nT cs, nT rs] ∧ primeB p = true ∧ InR p cs ∧ InR p rs ∧ cs.length = rs.length ∧ rs.length ≤ 20 ∧ K (nT (sumL p cs rs))
def S_lack_line : SF := fun ds K _ => ∃ p row lot counts, ds = [.int p, nT row, nT lot, nT counts] ∧ Ct p row lot counts ∧ K (nT (lackL p row lot counts))
def S_is_looked_up : SF := fun ds K _ => ∃ p row lot counts, ds = [.int p, nT row, nT lot, nT counts] ∧ Ct p row lot counts ∧ K (.bool (decide (lackL p row lot counts = [])))
def falseL (p : Int) (row lot counts : List Int) : List Int := if lackL p row lot counts = [] then [] else (rootsL p (lackL p row lot counts)).filter (canAsk row lot)
def S_false_passes : SF := fun ds K _ => ∃ p row lot counts, ds = [.int p, nT row, nT lot, nT counts] ∧ Ct p row lot counts ∧ K (nT (falseL p row lot counts))
def S_most_false : SF := fun ds K _ => ∃ p row lot, ds = [.int p, nT row, nT lot] ∧ Lk p row lot ∧ K (.int (max 0 ((row.length : Int) + (lot.length : Int) - 1)))
def isNums (p : Int) (d : D) : Bool := match d with
  | .tuple xs => decide (xs.length ≤ 20) && (xs.all fun x => btw x 0 (p - 1))
  | _ => false
def S_is_numbers : SF := fun ds K _ => ∃ p d, ds = [.int p, d] ∧ d.pd = true ∧ K (.bool (isNums p d))
structure Two (p : Int) (a b : List Int) : Prop where
  hp : primeB p = true
  ia : InR p a
  ib : InR p b
  la : a.length ≤ 20
  lb : b.length = a.length
def S_need_rows_checklots : SF := fun ds K _ => ∃ p a b, ds = [.int p, nT a, nT b] ∧ Two p a b ∧ K .non
def S_product_at : SF := fun ds K _ => ∃ p row x, ds = [.int p, nT row, .int x] ∧ P97 p ∧ InR p row ∧ 0 ≤ x ∧ x < p ∧ K (.int (prodAt p row x))
def S_are_one_lot : SF := fun ds K _ => ∃ p a b, ds = [.int p, nT a, nT b] ∧ Two p a b ∧ K (.bool (decide (srtI a = srtI b)))
def S_points_agreeing : SF := fun ds K _ => ∃ p a b, ds = [.int p, nT a, nT b] ∧ Two p a b ∧ K (nT ((rangeI p).filter fun x => prodAt p a x == prodAt p b x))
def S__law_inverse : SF := fun ds K _ => ∃ p x, ds = [.int p, .int x] ∧ primeB p = true ∧ 0 < x ∧ x < p ∧ K (.int (invS p x))
def S__law_sums : SF := fun ds K _ => ∃ p row lot counts x, ds = [.int p, nT row, nT lot, nT counts, .int x] ∧ Ct p row lot counts ∧ 0 ≤ x ∧ x < p ∧ canAsk row lot x = true ∧ K (.tuple [.int (mineS p row x % p), .int (theirS p lot counts x % p)])
abbrev st__law_gcd : Stmt := top 58
abbrev N__law_gcd : List Str := ["one", "other", "step"]
theorem sc__law_gcd : FnScope N__law_gcd ["one", "other"] (defScope st__law_gcd) := ⟨rfl, rfl, rfl, by decide +kernel, rfl, by decide +kernel, by decide +kernel⟩
def W__law_gcd : WS :=
  (seqW (forW (.nm 2) (rng1A (consA (cstW (.int 20000)) nilA))
    (seqW (ifW false (boolW (binW eqW (varW 1) (cstW (.int 0)))) (retW (varW 0)) nextW)
    (parW false 0 1 (consA (varW 1) (consA (binW modW (bltW int1W (consA (varW 0) nilA)) (varW 1)) nilA)))))
    (retW (varW 0)))
abbrev st__law_frac : Stmt := top 59
abbrev N__law_frac : List Str := ["top", "bottom", "many"]
theorem sc__law_frac : FnScope N__law_frac ["top", "bottom"] (defScope st__law_frac) := ⟨rfl, rfl, rfl, by decide +kernel, rfl, by decide +kernel, by decide +kernel⟩
def W__law_frac : WS :=
  (seqW (asgW false (.nm 2) (callW S__law_gcd (consA (bltW absW (consA (varW 0) nilA)) (consA (varW 1) nilA))))
    (retW (tupW (consA (binW fdivA (varW 0) (varW 2)) (consA (binW fdivA (varW 1) (varW 2)) nilA)))))
abbrev st__law_hand : Stmt := top 53
abbrev N__law_hand : List Str := ["script", "cells", "cell"]
theorem sc__law_hand : FnScope N__law_hand ["script"] (defScope st__law_hand) := ⟨rfl, rfl, rfl, by decide +kernel, rfl, by decide +kernel, by decide +kernel⟩
def W__law_hand : WS :=
  (seqW (asgW false (.nm 1) (compW [2] (.nm 2) (seqA (slcW (varW 0) noO (someO (cstW (.int 63))))) yesT (bltW absW (consA (bltW int1W (consA (varW 2) nilA)) nilA))))
    (retHW (lstW (consA (varW 1) (consA (cstW (.int 0)) (consA (cstW (.int 0)) (consA (binW addW (cstW (.int 31)) (binW mulA (cstW (.int 7)) (bltW lenW (consA (varW 1) nilA)))) (consA (cstW (.int 0)) nilA))))))))
abbrev st__law_kept : Stmt := top 56
abbrev N__law_kept : List Str := ["told", "due", "at"]
theorem sc__law_kept : FnScope N__law_kept ["told", "due"] (defScope st__law_kept) := ⟨rfl, rfl, rfl, by decide +kernel, rfl, by decide +kernel, by decide +kernel⟩
def W__law_kept (S__law_kept : SF) : WS :=
  (seqW (ifW false (orT (truthW (bltW isiW (consA (varW 1) (consA (cstW (.raw (.ty "tuple"))) nilA)))) (truthW (bltW isiW (consA (varW 1) (consA (cstW (.raw (.ty "list"))) nilA))))) (seqW (ifW false (orT (boolW (binW neW (bltW isiW (consA (varW 0) (consA (cstW (.raw (.ty "tuple"))) nilA))) (bltW isiW (consA (varW 1) (consA (cstW (.raw (.ty "tuple"))) nilA))))) (boolW (binW neW (bltW isiW (consA (varW 0) (consA (cstW (.raw (.ty "list"))) nilA))) (bltW isiW (consA (varW 1) (consA (cstW (.raw (.ty "list"))) nilA)))))) (retW (cstW (.bool false))) nextW)
    (retW (andV (binW eqW (bltW lenW (consA (varW 0) nilA)) (bltW lenW (consA (varW 1) nilA))) (bltW allW (consA (compW [2] (.nm 2) (rng1A (consA (bltW lenW (consA (varW 1) nilA)) nilA)) yesT (callW S__law_kept (consA (binW ixW (varW 0) (varW 2)) (consA (binW ixW (varW 1) (varW 2)) nilA)))) nilA))))) nextW)
    (seqW (ifW false (boolW (binW isNonW (varW 1) (cstW .non))) (retW (binW isNonW (varW 0) (cstW .non))) nextW)
    (seqW (ifW false (truthW (bltW isiW (consA (varW 1) (consA (cstW (.raw (.ty "bool"))) nilA)))) (retW (ifV (truthW (varW 1)) (binW isNonW (varW 0) (cstW (.bool true))) (binW isNonW (varW 0) (cstW (.bool false))))) nextW)
    (seqW (ifW false (truthW (bltW isiW (consA (varW 1) (consA (cstW (.raw (.ty "int"))) nilA)))) (retW (andV (bltW isiW (consA (varW 0) (consA (cstW (.raw (.ty "int"))) nilA))) (andV (notV (bltW isiW (consA (varW 0) (consA (cstW (.raw (.ty "bool"))) nilA)))) (binW eqW (varW 0) (varW 1))))) nextW)
    (retW (andV (bltW isiW (consA (varW 0) (consA (cstW (.raw (.ty "str"))) nilA))) (binW eqW (varW 0) (varW 1))))))))
abbrev st__law_mixed : Stmt := top 57
abbrev N__law_mixed : List Str := ["hand", "things", "left", "found"]
theorem sc__law_mixed : FnScope N__law_mixed ["hand", "things"] (defScope st__law_mixed) := ⟨rfl, rfl, rfl, by decide +kernel, rfl, by decide +kernel, by decide +kernel⟩
def W__law_mixed : WS :=
  (seqW (parOOW false 2 3 (bltW list1W (consA (varW 1) nilA)) (lstW nilA))
    (seqW (whileW true (boolW (binW gtW (bltW lenW (consA (varW 2) nilA)) (cstW (.int 0)))) (appPopW true 3 2 (callW S__law_draw (consA (varW 0) (consA (bltW lenW (consA (varW 2) nilA)) nilA)))))
    (retW (varW 3))))
abbrev st__law_numbers : Stmt := top 60
abbrev N__law_numbers : List Str := ["hand", "p", "many", "step"]
theorem sc__law_numbers : FnScope N__law_numbers ["hand", "p", "many"] (defScope st__law_numbers) := ⟨rfl, rfl, rfl, by decide +kernel, rfl, by decide +kernel, by decide +kernel⟩
def W__law_numbers : WS :=
  (retW (bltW tuple1W (consA (compW [3] (.nm 3) (rng1A (consA (varW 2) nilA)) yesT (callW S__law_draw (consA (varW 0) (consA (varW 1) nilA)))) nilA)))
abbrev st__law_some : Stmt := top 55
abbrev N__law_some : List Str := ["hand", "things"]
theorem sc__law_some : FnScope N__law_some ["hand", "things"] (defScope st__law_some) := ⟨rfl, rfl, rfl, by decide +kernel, rfl, by decide +kernel, by decide +kernel⟩
def W__law_some : WS :=
  (retW (binW ixW (varW 1) (callW S__law_draw (consA (varW 0) (consA (bltW lenW (consA (varW 1) nilA)) nilA)))))
abbrev st__law_inverse : Stmt := top 61
abbrev N__law_inverse : List Str := ["p", "number", "other"]
theorem sc__law_inverse : FnScope N__law_inverse ["p", "number"] (defScope st__law_inverse) := ⟨rfl, rfl, rfl, by decide +kernel, rfl, by decide +kernel, by decide +kernel⟩
def W__law_inverse : WS :=
  (retW (binW ixW (compW [2] (.nm 2) (rng1A (consA (varW 0) nilA)) (boolW (binW eqW (binW modW (bltW int1W (consA (binW mulA (varW 1) (varW 2)) nilA)) (varW 0)) (cstW (.int 1)))) (varW 2)) (cstW (.int 0))))
abbrev st__law_sums : Stmt := top 62
abbrev N__law_sums : List Str := ["p", "row", "lot", "counts", "x", "mine", "theirs", "part", "at"]
theorem sc__law_sums : FnScope N__law_sums ["p", "row", "lot", "counts", "x"] (defScope st__law_sums) := ⟨rfl, rfl, rfl, by decide +kernel, rfl, by decide +kernel, by decide +kernel⟩
def W__law_sums : WS :=
  (seqW (asgW false (.nm 5) (bltW sumW (consA (compW [7] (.nm 7) (seqA (varW 1)) yesT (callW S__law_inverse (consA (varW 0) (consA (binW modW (bltW int1W (consA (binW subW (varW 4) (varW 7)) nilA)) (varW 0)) nilA)))) nilA)))
    (seqW (asgW false (.nm 6) (bltW sumW (consA (compW [8] (.nm 8) (rng1A (consA (bltW lenW (consA (varW 2) nilA)) nilA)) yesT (binW mulA (binW ixW (varW 3) (varW 8)) (callW S__law_inverse (consA (varW 0) (consA (binW modW (bltW int1W (consA (binW subW (varW 4) (binW ixW (varW 2) (varW 8))) nilA)) (varW 0)) nilA))))) nilA)))
    (retW (tupW (consA (binW modW (bltW int1W (consA (varW 5) nilA)) (varW 0)) (consA (binW modW (bltW int1W (consA (varW 6) nilA)) (varW 0)) nilA))))))
abbrev st_is_integer : Stmt := top 9
abbrev N_is_integer : List Str := ["thing"]
theorem sc_is_integer : FnScope N_is_integer ["thing"] (defScope st_is_integer) := ⟨rfl, rfl, rfl, by decide +kernel, rfl, by decide +kernel, by decide +kernel⟩
def W_is_integer : WS :=
  (retW (andV (bltW isiW (consA (varW 0) (consA (cstW (.raw (.ty "int"))) nilA))) (notV (bltW isiW (consA (varW 0) (consA (cstW (.raw (.ty "bool"))) nilA))))))
abbrev st_is_between : Stmt := top 10
abbrev N_is_between : List Str := ["thing", "least", "greatest"]
theorem sc_is_between : FnScope N_is_between ["thing", "least", "greatest"] (defScope st_is_between) := ⟨rfl, rfl, rfl, by decide +kernel, rfl, by decide +kernel, by decide +kernel⟩
def W_is_between : WS :=
  (retW (andV (callW S_is_integer (consA (varW 0) nilA)) (chainW leW leW (varW 1) (varW 0) (varW 2))))
abbrev st_is_number : Stmt := top 13
abbrev N_is_number : List Str := ["p", "thing"]
theorem sc_is_number : FnScope N_is_number ["p", "thing"] (defScope st_is_number) := ⟨rfl, rfl, rfl, by decide +kernel, rfl, by decide +kernel, by decide +kernel⟩
def W_is_number : WS :=
  (retW (callW S_is_between (consA (varW 1) (consA (cstW (.int 0)) (consA (binW subW (varW 0) (cstW (.int 1))) nilA)))))
abbrev st_is_numbers : Stmt := top 46
abbrev N_is_numbers : List Str := ["p", "thing", "one"]
theorem sc_is_numbers : FnScope N_is_numbers ["p", "thing"] (defScope st_is_numbers) := ⟨rfl, rfl, rfl, by decide +kernel, rfl, by decide +kernel, by decide +kernel⟩
def W_is_numbers : WS :=
  (retW (andV (bltW isiW (consA (varW 1) (consA (cstW (.raw (.ty "tuple"))) nilA))) (andV (binW leW (bltW lenW (consA (varW 1) nilA)) (cstW D_MOST_LONG_checklots)) (bltW allW (consA (compW [2] (.nm 2) (seqA (varW 1)) yesT (callW S_is_number (consA (varW 0) (consA (varW 2) nilA)))) nilA)))))
abbrev st_is_prime : Stmt := top 11
abbrev N_is_prime : List Str := ["thing", "number"]
theorem sc_is_prime : FnScope N_is_prime ["thing"] (defScope st_is_prime) := ⟨rfl, rfl, rfl, by decide +kernel, rfl, by decide +kernel, by decide +kernel⟩
def W_is_prime : WS :=
  (retW (andV (callW S_is_between (consA (varW 0) (consA (cstW (.int 3)) (consA (cstW D_MOST_PRIME) nilA)))) (bltW allW (consA (compW [1] (.nm 1) (rng2A (consA (cstW (.int 2)) (consA (varW 0) nilA))) yesT (binW neW (binW modW (varW 0) (varW 1)) (cstW (.int 0)))) nilA))))
abbrev st_need_prime : Stmt := top 12
abbrev N_need_prime : List Str := ["thing"]
theorem sc_need_prime : FnScope N_need_prime ["thing"] (defScope st_need_prime) := ⟨rfl, rfl, rfl, by decide +kernel, rfl, by decide +kernel, by decide +kernel⟩
def W_need_prime : WS :=
  (ifW false (notT (truthW (callW S_is_prime (consA (varW 0) nilA)))) (raiseW "NoPrime") nextW)
abbrev st_need_rows_checklots : Stmt := top 47
abbrev N_need_rows_checklots : List Str := ["p", "one", "other"]
theorem sc_need_rows_checklots : FnScope N_need_rows_checklots ["p", "one", "other"] (defScope st_need_rows_checklots) := ⟨rfl, rfl, rfl, by decide +kernel, rfl, by decide +kernel, by decide +kernel⟩
def W_need_rows_checklots : WS :=
  (seqW (exprW false (callW S_need_prime (consA (varW 0) nilA)))
    (seqW (ifW false (notT (truthW (callW S_is_numbers (consA (varW 0) (consA (varW 1) nilA))))) (raiseW "NoRow") nextW)
    (ifW false (orT (notT (truthW (callW S_is_numbers (consA (varW 0) (consA (varW 2) nilA))))) (boolW (binW neW (bltW lenW (consA (varW 2) nilA)) (bltW lenW (consA (varW 1) nilA))))) (raiseW "NoRow") nextW)))
abbrev st_are_one_lot : Stmt := top 50
abbrev N_are_one_lot : List Str := ["p", "one", "other"]
theorem sc_are_one_lot : FnScope N_are_one_lot ["p", "one", "other"] (defScope st_are_one_lot) := ⟨rfl, rfl, rfl, by decide +kernel, rfl, by decide +kernel, by decide +kernel⟩
def W_are_one_lot : WS :=
  (seqW (exprW false (callW S_need_rows_checklots (consA (varW 0) (consA (varW 1) (consA (varW 2) nilA)))))
    (retW (binW eqW (bltW sortedW (consA (varW 1) nilA)) (bltW sortedW (consA (varW 2) nilA)))))
abbrev st_need_rows_lookups : Stmt := top 30
abbrev N_need_rows_lookups : List Str := ["p", "row", "lot", "part", "x", "at"]
theorem sc_need_rows_lookups : FnScope N_need_rows_lookups ["p", "row", "lot"] (defScope st_need_rows_lookups) := ⟨rfl, rfl, rfl, by decide +kernel, rfl, by decide +kernel, by decide +kernel⟩
def W_need_rows_lookups : WS :=
  (seqW (exprW false (callW S_need_prime (consA (varW 0) nilA)))
    (seqW (forW (.nm 3) (seqA (tupW (consA (varW 1) (consA (varW 2) nilA))))
    (ifW false (orT (notT (truthW (bltW isiW (consA (varW 3) (consA (cstW (.raw (.ty "tuple"))) nilA))))) (orT (boolW (binW gtW (bltW lenW (consA (varW 3) nilA)) (cstW D_MOST_LONG_lookups))) (notT (truthW (bltW allW (consA (compW [4] (.nm 4) (seqA (varW 3)) yesT (callW S_is_number (consA (varW 0) (consA (varW 4) nilA)))) nilA)))))) (raiseW "NoRow") nextW))
    (ifW false (notT (truthW (bltW allW (consA (compW [5] (.nm 5) (rng2A (consA (cstW (.int 1)) (consA (bltW lenW (consA (varW 2) nilA)) nilA))) yesT (binW ltW (binW ixW (varW 2) (binW subW (varW 5) (cstW (.int 1)))) (binW ixW (varW 2) (varW 5)))) nilA)))) (raiseW "NoRow") nextW)))
abbrev st_need_counts : Stmt := top 34
abbrev N_need_counts : List Str := ["p", "row", "lot", "counts", "x"]
theorem sc_need_counts : FnScope N_need_counts ["p", "row", "lot", "counts"] (defScope st_need_counts) := ⟨rfl, rfl, rfl, by decide +kernel, rfl, by decide +kernel, by decide +kernel⟩
def W_need_counts : WS :=
  (seqW (exprW false (callW S_need_rows_lookups (consA (varW 0) (consA (varW 1) (consA (varW 2) nilA)))))
    (ifW false (orT (notT (truthW (bltW isiW (consA (varW 3) (consA (cstW (.raw (.ty "tuple"))) nilA))))) (orT (boolW (binW neW (bltW lenW (consA (varW 3) nilA)) (bltW lenW (consA (varW 2) nilA)))) (notT (truthW (bltW allW (consA (compW [4] (.nm 4) (seqA (varW 3)) yesT (callW S_is_number (consA (varW 0) (consA (varW 4) nilA)))) nilA)))))) (raiseW "NoNumber") nextW))
abbrev st_power_of : Stmt := top 14
abbrev N_power_of : List Str := ["p", "number", "many", "found", "_"]
theorem sc_power_of : FnScope N_power_of ["p", "number", "many"] (defScope st_power_of) := ⟨rfl, rfl, rfl, by decide +kernel, rfl, by decide +kernel, by decide +kernel⟩
def W_power_of : WS :=
  (seqW (asgW false (.nm 3) (cstW (.int 1)))
    (seqW (forW (.nm 4) (rng1A (consA (varW 2) nilA))
    (asgW false (.nm 3) (binW modW (binW mulA (varW 3) (varW 1)) (varW 0))))
    (retW (varW 3))))
abbrev st_inverse_of : Stmt := top 15
abbrev N_inverse_of : List Str := ["p", "number"]
theorem sc_inverse_of : FnScope N_inverse_of ["p", "number"] (defScope st_inverse_of) := ⟨rfl, rfl, rfl, by decide +kernel, rfl, by decide +kernel, by decide +kernel⟩
def W_inverse_of : WS :=
  (retW (callW S_power_of (consA (varW 0) (consA (varW 1) (consA (binW subW (varW 0) (cstW (.int 2))) nilA)))))
abbrev st_sums_at : Stmt := top 35
abbrev N_sums_at : List Str := ["p", "row", "lot", "counts", "x", "mine", "theirs", "part", "many"]
theorem sc_sums_at : FnScope N_sums_at ["p", "row", "lot", "counts", "x"] (defScope st_sums_at) := ⟨rfl, rfl, rfl, by decide +kernel, rfl, by decide +kernel, by decide +kernel⟩
def W_sums_at : WS :=
  (seqW (ifW false (orT (boolW (binW (inA false) (varW 4) (varW 1))) (boolW (binW (inA false) (varW 4) (varW 2)))) (retW (cstW .non)) nextW)
    (seqW (asgW false (.nm 5) (binW modW (bltW sumW (consA (compW [7] (.nm 7) (seqA (varW 1)) yesT (callW S_inverse_of (consA (varW 0) (consA (binW modW (binW subW (varW 4) (varW 7)) (varW 0)) nilA)))) nilA)) (varW 0)))
    (seqW (asgW false (.nm 6) (binW modW (bltW sumW (consA (compW [7, 8] (.tup [(.nm 7), (.nm 8)]) (zipA (consA (varW 2) (consA (varW 3) nilA))) yesT (binW mulA (varW 8) (callW S_inverse_of (consA (varW 0) (consA (binW modW (binW subW (varW 4) (varW 7)) (varW 0)) nilA))))) nilA)) (varW 0)))
    (retW (tupW (consA (varW 5) (consA (varW 6) nilA)))))))
abbrev st_check_at : Stmt := top 36
abbrev N_check_at : List Str := ["p", "row", "lot", "counts", "x", "sums"]
theorem sc_check_at : FnScope N_check_at ["p", "row", "lot", "counts", "x"] (defScope st_check_at) := ⟨rfl, rfl, rfl, by decide +kernel, rfl, by decide +kernel, by decide +kernel⟩
def W_check_at : WS :=
  (seqW (exprW false (callW S_need_counts (consA (varW 0) (consA (varW 1) (consA (varW 2) (consA (varW 3) nilA))))))
    (seqW (ifW false (notT (truthW (callW S_is_number (consA (varW 0) (consA (varW 4) nilA))))) (raiseW "NoPoint") nextW)
    (seqW (asgW false (.nm 5) (callW S_sums_at (consA (varW 0) (consA (varW 1) (consA (varW 2) (consA (varW 3) (consA (varW 4) nilA)))))))
    (retW (ifV (boolW (binW isNonW (varW 5) (cstW .non))) (cstW .non) (binW eqW (binW ixW (varW 5) (cstW (.int 0))) (binW ixW (varW 5) (cstW (.int 1)))))))))
abbrev st_trimmed : Stmt := top 18
abbrev N_trimmed : List Str := ["row", "found"]
theorem sc_trimmed : FnScope N_trimmed ["row"] (defScope st_trimmed) := ⟨rfl, rfl, rfl, by decide +kernel, rfl, by decide +kernel, by decide +kernel⟩
def W_trimmed : WS :=
  (seqW (ownW false 1 (bltW list1W (consA (varW 0) nilA)))
    (seqW (whileW true (andT (boolW (binW gtW (bltW lenW (consA (varW 1) nilA)) (cstW (.int 0)))) (boolW (binW eqW (binW ixW (varW 1) (negW (cstW (.int 1)))) (cstW (.int 0))))) (popW 1))
    (retW (bltW tuple1W (consA (varW 1) nilA)))))
abbrev st_times_lines : Stmt := top 21
abbrev N_times_lines : List Str := ["p", "one", "other", "found", "at", "mine", "place", "theirs"]
theorem sc_times_lines : FnScope N_times_lines ["p", "one", "other"] (defScope st_times_lines) := ⟨rfl, rfl, rfl, by decide +kernel, rfl, by decide +kernel, by decide +kernel⟩
def W_times_lines : WS :=
  (seqW (ownW false 3 (binW repL (lstW (consA (cstW (.int 0)) nilA)) (bltW max2W (consA (cstW (.int 0)) (consA (binW subW (binW addW (bltW lenW (consA (varW 1) nilA)) (bltW lenW (consA (varW 2) nilA))) (cstW (.int 1))) nilA)))))
    (seqW (forW (.tup [(.nm 4), (.nm 5)]) (enumA (consA (varW 1) nilA))
    (forW (.tup [(.nm 6), (.nm 7)]) (enumA (consA (varW 2) nilA))
    (setIW true 3 (binW modW (binW addW (binW ixW (varW 3) (binW addW (varW 4) (varW 6))) (binW mulA (varW 5) (varW 7))) (varW 0)) (binW addW (varW 4) (varW 6)))))
    (retW (callW S_trimmed (consA (varW 3) nilA)))))
abbrev st_line_of_roots : Stmt := top 24
abbrev N_line_of_roots : List Str := ["p", "row", "found", "x"]
theorem sc_line_of_roots : FnScope N_line_of_roots ["p", "row"] (defScope st_line_of_roots) := ⟨rfl, rfl, rfl, by decide +kernel, rfl, by decide +kernel, by decide +kernel⟩
def W_line_of_roots : WS :=
  (seqW (exprW false (callW S_need_prime (consA (varW 0) nilA)))
    (seqW (ifW false (orT (notT (truthW (bltW isiW (consA (varW 1) (consA (cstW (.raw (.ty "tuple"))) nilA))))) (orT (boolW (binW geW (bltW lenW (consA (varW 1) nilA)) (cstW D_MOST_LONG_lines))) (notT (truthW (bltW allW (consA (compW [3] (.nm 3) (seqA (varW 1)) yesT (callW S_is_number (consA (varW 0) (consA (varW 3) nilA)))) nilA)))))) (raiseW "NoPoints") nextW)
    (seqW (asgW false (.nm 2) (tupW (consA (cstW (.int 1)) nilA)))
    (seqW (forW (.nm 3) (seqA (varW 1))
    (asgW false (.nm 2) (callW S_times_lines (consA (varW 0) (consA (varW 2) (consA (tupW (consA (binW modW (binW subW (cstW (.int 0)) (varW 3)) (varW 0)) (consA (cstW (.int 1)) nilA))) nilA))))))
    (retW (varW 2))))))
abbrev st_plus_lines : Stmt := top 19
abbrev N_plus_lines : List Str := ["p", "one", "other", "many", "rows", "line", "mine", "theirs"]
theorem sc_plus_lines : FnScope N_plus_lines ["p", "one", "other"] (defScope st_plus_lines) := ⟨rfl, rfl, rfl, by decide +kernel, rfl, by decide +kernel, by decide +kernel⟩
def W_plus_lines : WS :=
  (seqW (asgW false (.nm 3) (bltW max2W (consA (bltW lenW (consA (varW 1) nilA)) (consA (bltW lenW (consA (varW 2) nilA)) nilA))))
    (seqW (asgW false (.nm 4) (compW [5] (.nm 5) (seqA (tupW (consA (varW 1) (consA (varW 2) nilA)))) yesT (binW addW (varW 5) (binW mulA (tupW (consA (cstW (.int 0)) nilA)) (binW subW (varW 3) (bltW lenW (consA (varW 5) nilA)))))))
    (retW (callW S_trimmed (consA (compW [6, 7] (.tup [(.nm 6), (.nm 7)]) (zipA (consA (binW ixW (varW 4) (cstW (.int 0))) (consA (binW ixW (varW 4) (cstW (.int 1))) nilA))) yesT (binW modW (binW addW (varW 6) (varW 7)) (varW 0))) nilA)))))
abbrev st_scaled_line : Stmt := top 20
abbrev N_scaled_line : List Str := ["p", "line", "number", "part"]
theorem sc_scaled_line : FnScope N_scaled_line ["p", "line", "number"] (defScope st_scaled_line) := ⟨rfl, rfl, rfl, by decide +kernel, rfl, by decide +kernel, by decide +kernel⟩
def W_scaled_line : WS :=
  (retW (callW S_trimmed (consA (compW [3] (.nm 3) (seqA (varW 1)) yesT (binW modW (binW mulA (varW 3) (varW 2)) (varW 0))) nilA)))
abbrev st_sum_line : Stmt := top 39
abbrev N_sum_line : List Str := ["p", "parts", "roots", "found", "at", "part"]
theorem sc_sum_line : FnScope N_sum_line ["p", "parts", "roots"] (defScope st_sum_line) := ⟨rfl, rfl, rfl, by decide +kernel, rfl, by decide +kernel, by decide +kernel⟩
def W_sum_line : WS :=
  (seqW (asgW false (.nm 3) (tupW nilA))
    (seqW (forW (.tup [(.nm 4), (.nm 5)]) (enumA (consA (varW 1) nilA))
    (asgW false (.nm 3) (callW S_plus_lines (consA (varW 0) (consA (varW 3) (consA (callW S_scaled_line (consA (varW 0) (consA (callW S_line_of_roots (consA (varW 0) (consA (binW addW (slcW (varW 2) noO (someO (varW 4))) (slcW (varW 2) (someO (binW addW (varW 4) (cstW (.int 1)))) noO)) nilA))) (consA (varW 5) nilA)))) nilA))))))
    (retW (varW 3))))
abbrev st_lack_line : Stmt := top 40
abbrev N_lack_line : List Str := ["p", "row", "lot", "counts", "mine", "theirs"]
theorem sc_lack_line : FnScope N_lack_line ["p", "row", "lot", "counts"] (defScope st_lack_line) := ⟨rfl, rfl, rfl, by decide +kernel, rfl, by decide +kernel, by decide +kernel⟩
def W_lack_line : WS :=
  (seqW (exprW false (callW S_need_counts (consA (varW 0) (consA (varW 1) (consA (varW 2) (consA (varW 3) nilA))))))
    (seqW (asgW false (.nm 4) (callW S_times_lines (consA (varW 0) (consA (callW S_sum_line (consA (varW 0) (consA (binW mulA (tupW (consA (cstW (.int 1)) nilA)) (bltW lenW (consA (varW 1) nilA))) (consA (varW 1) nilA)))) (consA (callW S_line_of_roots (consA (varW 0) (consA (varW 2) nilA))) nilA)))))
    (seqW (asgW false (.nm 5) (callW S_times_lines (consA (varW 0) (consA (callW S_sum_line (consA (varW 0) (consA (varW 3) (consA (varW 2) nilA)))) (consA (callW S_line_of_roots (consA (varW 0) (consA (varW 1) nilA))) nilA)))))
    (retW (callW S_plus_lines (consA (varW 0) (consA (varW 4) (consA (callW S_scaled_line (consA (varW 0) (consA (varW 5) (consA (binW subW (varW 0) (cstW (.int 1))) nilA)))) nilA))))))))
abbrev st_value_of : Stmt := top 22
abbrev N_value_of : List Str := ["p", "line", "x", "found", "part"]
theorem sc_value_of : FnScope N_value_of ["p", "line", "x"] (defScope st_value_of) := ⟨rfl, rfl, rfl, by decide +kernel, rfl, by decide +kernel, by decide +kernel⟩
def W_value_of : WS :=
  (seqW (asgW false (.nm 3) (cstW (.int 0)))
    (seqW (forW (.nm 4) (seqA (revW (varW 1)))
    (asgW false (.nm 3) (binW modW (binW addW (binW mulA (varW 3) (varW 2)) (varW 4)) (varW 0))))
    (retW (varW 3))))
abbrev st_roots_of : Stmt := top 23
abbrev N_roots_of : List Str := ["p", "line", "x"]
theorem sc_roots_of : FnScope N_roots_of ["p", "line"] (defScope st_roots_of) := ⟨rfl, rfl, rfl, by decide +kernel, rfl, by decide +kernel, by decide +kernel⟩
def W_roots_of : WS :=
  (retW (bltW tuple1W (consA (compW [2] (.nm 2) (rng1A (consA (varW 0) nilA)) (boolW (binW eqW (callW S_value_of (consA (varW 0) (consA (varW 1) (consA (varW 2) nilA)))) (cstW (.int 0)))) (varW 2)) nilA)))
abbrev st_false_passes : Stmt := top 42
abbrev N_false_passes : List Str := ["p", "row", "lot", "counts", "line", "x"]
theorem sc_false_passes : FnScope N_false_passes ["p", "row", "lot", "counts"] (defScope st_false_passes) := ⟨rfl, rfl, rfl, by decide +kernel, rfl, by decide +kernel, by decide +kernel⟩
def W_false_passes : WS :=
  (seqW (asgW false (.nm 4) (callW S_lack_line (consA (varW 0) (consA (varW 1) (consA (varW 2) (consA (varW 3) nilA))))))
    (seqW (ifW false (boolW (binW eqW (bltW lenW (consA (varW 4) nilA)) (cstW (.int 0)))) (retW (tupW nilA)) nextW)
    (retW (bltW tuple1W (consA (compW [5] (.nm 5) (seqA (callW S_roots_of (consA (varW 0) (consA (varW 4) nilA)))) (andT (boolW (binW (inA true) (varW 5) (varW 1))) (boolW (binW (inA true) (varW 5) (varW 2)))) (varW 5)) nilA)))))
abbrev st_is_looked_up : Stmt := top 41
abbrev N_is_looked_up : List Str := ["p", "row", "lot", "counts"]
theorem sc_is_looked_up : FnScope N_is_looked_up ["p", "row", "lot", "counts"] (defScope st_is_looked_up) := ⟨rfl, rfl, rfl, by decide +kernel, rfl, by decide +kernel, by decide +kernel⟩
def W_is_looked_up : WS :=
  (retW (binW eqW (bltW lenW (consA (callW S_lack_line (consA (varW 0) (consA (varW 1) (consA (varW 2) (consA (varW 3) nilA))))) nilA)) (cstW (.int 0))))
abbrev st_most_false : Stmt := top 43
abbrev N_most_false : List Str := ["p", "row", "lot"]
theorem sc_most_false : FnScope N_most_false ["p", "row", "lot"] (defScope st_most_false) := ⟨rfl, rfl, rfl, by decide +kernel, rfl, by decide +kernel, by decide +kernel⟩
def W_most_false : WS :=
  (seqW (exprW false (callW S_need_rows_lookups (consA (varW 0) (consA (varW 1) (consA (varW 2) nilA)))))
    (retW (bltW max2W (consA (cstW (.int 0)) (consA (binW subW (binW addW (bltW lenW (consA (varW 1) nilA)) (bltW lenW (consA (varW 2) nilA))) (cstW (.int 1))) nilA)))))
abbrev st_passing : Stmt := top 37
abbrev N_passing : List Str := ["p", "row", "lot", "counts", "found", "x", "sums"]
theorem sc_passing : FnScope N_passing ["p", "row", "lot", "counts"] (defScope st_passing) := ⟨rfl, rfl, rfl, by decide +kernel, rfl, by decide +kernel, by decide +kernel⟩
def W_passing : WS :=
  (seqW (exprW false (callW S_need_counts (consA (varW 0) (consA (varW 1) (consA (varW 2) (consA (varW 3) nilA))))))
    (seqW (ownW false 4 (lstW nilA))
    (seqW (forW (.nm 5) (rng1A (consA (varW 0) nilA))
    (seqW (asgW false (.nm 6) (callW S_sums_at (consA (varW 0) (consA (varW 1) (consA (varW 2) (consA (varW 3) (consA (varW 5) nilA)))))))
    (ifW false (andT (boolW (binW notNonW (varW 6) (cstW .non))) (boolW (binW eqW (binW ixW (varW 6) (cstW (.int 0))) (binW ixW (varW 6) (cstW (.int 1)))))) (appW false 4 (varW 5)) nextW)))
    (retW (bltW tuple1W (consA (varW 4) nilA))))))
abbrev st_common : Stmt := top 26
abbrev N_common : List Str := ["one", "other"]
theorem sc_common : FnScope N_common ["one", "other"] (defScope st_common) := ⟨rfl, rfl, rfl, by decide +kernel, rfl, by decide +kernel, by decide +kernel⟩
def W_common : WS :=
  (seqW (whileW false (boolW (binW gtW (varW 1) (cstW (.int 0)))) (parW false 0 1 (consA (varW 1) (consA (binW modW (varW 0) (varW 1)) nilA))))
    (retW (varW 0)))
abbrev st_fraction : Stmt := top 27
abbrev N_fraction : List Str := ["top", "bottom", "many"]
theorem sc_fraction : FnScope N_fraction ["top", "bottom"] (defScope st_fraction) := ⟨rfl, rfl, rfl, by decide +kernel, rfl, by decide +kernel, by decide +kernel⟩
def W_fraction : WS :=
  (seqW (asgW false (.nm 2) (callW S_common (consA (bltW absW (consA (varW 0) nilA)) (consA (varW 1) nilA))))
    (retW (tupW (consA (binW fdivA (varW 0) (varW 2)) (consA (binW fdivA (varW 1) (varW 2)) nilA)))))
abbrev st_passing_share : Stmt := top 38
abbrev N_passing_share : List Str := ["p", "row", "lot", "counts", "told", "asked", "x"]
theorem sc_passing_share : FnScope N_passing_share ["p", "row", "lot", "counts"] (defScope st_passing_share) := ⟨rfl, rfl, rfl, by decide +kernel, rfl, by decide +kernel, by decide +kernel⟩
def W_passing_share : WS :=
  (seqW (asgW false (.nm 4) (callW S_passing (consA (varW 0) (consA (varW 1) (consA (varW 2) (consA (varW 3) nilA))))))
    (seqW (asgW false (.nm 5) (compW [6] (.nm 6) (rng1A (consA (varW 0) nilA)) (andT (boolW (binW (inA true) (varW 6) (varW 1))) (boolW (binW (inA true) (varW 6) (varW 2)))) (varW 6)))
    (retW (ifV (boolW (binW eqW (bltW lenW (consA (varW 5) nilA)) (cstW (.int 0)))) (cstW .non) (callW S_fraction (consA (bltW lenW (consA (varW 4) nilA)) (consA (bltW lenW (consA (varW 5) nilA)) nilA)))))))
abbrev st_product_at : Stmt := top 49
abbrev N_product_at : List Str := ["p", "row", "point", "found", "number"]
theorem sc_product_at : FnScope N_product_at ["p", "row", "point"] (defScope st_product_at) := ⟨rfl, rfl, rfl, by decide +kernel, rfl, by decide +kernel, by decide +kernel⟩
def W_product_at : WS :=
  (seqW (asgW false (.nm 3) (cstW (.int 1)))
    (seqW (forW (.nm 4) (seqA (varW 1))
    (asgW false (.nm 3) (binW modW (binW mulA (varW 3) (binW subW (varW 2) (varW 4))) (varW 0))))
    (retW (varW 3))))
abbrev st_points_agreeing : Stmt := top 51
abbrev N_points_agreeing : List Str := ["p", "one", "other", "point"]
theorem sc_points_agreeing : FnScope N_points_agreeing ["p", "one", "other"] (defScope st_points_agreeing) := ⟨rfl, rfl, rfl, by decide +kernel, rfl, by decide +kernel, by decide +kernel⟩
def W_points_agreeing : WS :=
  (seqW (exprW false (callW S_need_rows_checklots (consA (varW 0) (consA (varW 1) (consA (varW 2) nilA)))))
    (retW (bltW tuple1W (consA (compW [3] (.nm 3) (rng1A (consA (varW 0) nilA)) (boolW (binW eqW (callW S_product_at (consA (varW 0) (consA (varW 1) (consA (varW 3) nilA)))) (callW S_product_at (consA (varW 0) (consA (varW 2) (consA (varW 3) nilA)))))) (varW 3)) nilA))))
abbrev st_strange : Stmt := top 32
abbrev N_strange : List Str := ["p", "row", "lot", "at", "x"]
theorem sc_strange : FnScope N_strange ["p", "row", "lot"] (defScope st_strange) := ⟨rfl, rfl, rfl, by decide +kernel, rfl, by decide +kernel, by decide +kernel⟩
def W_strange : WS :=
  (seqW (exprW false (callW S_need_rows_lookups (consA (varW 0) (consA (varW 1) (consA (varW 2) nilA)))))
    (retW (bltW tuple1W (consA (compW [3, 4] (.tup [(.nm 3), (.nm 4)]) (enumA (consA (varW 1) nilA)) (boolW (binW (inA true) (varW 4) (varW 2))) (varW 3)) nilA))))
abbrev st_tally : Stmt := top 33
abbrev N_tally : List Str := ["p", "row", "lot", "x"]
theorem sc_tally : FnScope N_tally ["p", "row", "lot"] (defScope st_tally) := ⟨rfl, rfl, rfl, by decide +kernel, rfl, by decide +kernel, by decide +kernel⟩
def W_tally : WS :=
  (seqW (exprW false (callW S_need_rows_lookups (consA (varW 0) (consA (varW 1) (consA (varW 2) nilA)))))
    (retW (bltW tuple1W (consA (compW [3] (.nm 3) (seqA (varW 2)) yesT (cntW (varW 1) (varW 3))) nilA))))
abbrev st_law : Stmt := top 63
abbrev N_law : List Str := ["script", "hand", "turn", "p", "lot", "row", "due", "counts", "places", "right", "asked", "good", "x", "mine", "theirs", "spread", "at", "same", "step", "part"]
theorem sc_law : FnScope N_law ["script"] (defScope st_law) := ⟨rfl, rfl, rfl, by decide +kernel, rfl, by decide +kernel, by decide +kernel⟩
def W_law : WS :=
  (seqW (asgW false (.nm 1) (callW S__law_hand (consA (varW 0) nilA)))
    (seqW (forW (.nm 2) (rng1A (consA (cstW (.int 5)) nilA))
    (seqW (asgW false (.nm 3) (callW S__law_some (consA (varW 1) (consA (lstW (consA (cstW (.int 5)) (consA (cstW (.int 7)) (consA (cstW (.int 11)) (consA (cstW (.int 13)) (consA (cstW (.int 23)) nilA)))))) nilA))))
    (seqW (asgW false (.nm 4) (bltW tuple1W (consA (bltW sortedW (consA (slcW (callW S__law_mixed (consA (varW 1) (consA (lrg1W (varW 3)) nilA))) noO (someO (callW S__law_draw (consA (varW 1) (consA (cstW (.int 5)) nilA))))) nilA)) nilA)))
    (seqW (asgW false (.nm 5) (bltW tuple1W (consA (compW [18] (.nm 18) (rng1A (consA (callW S__law_draw (consA (varW 1) (consA (cstW (.int 4)) nilA))) nilA)) yesT (callW S__law_some (consA (varW 1) (consA (binW addW (bltW list1W (consA (varW 4) nilA)) (lstW (consA (callW S__law_draw (consA (varW 1) (consA (varW 3) nilA))) nilA))) nilA)))) nilA)))
    (seqW (asgW false (.nm 6) (bltW tuple1W (consA (compW [12] (.nm 12) (seqA (varW 4)) yesT (bltW lenW (consA (compW [19] (.nm 19) (seqA (varW 5)) (boolW (binW eqW (varW 19) (varW 12))) (varW 19)) nilA))) nilA)))
    (seqW (asgW false (.nm 7) (ifV (boolW (binW eqW (callW S__law_draw (consA (varW 1) (consA (cstW (.int 2)) nilA))) (cstW (.int 0)))) (varW 6) (callW S__law_numbers (consA (varW 1) (consA (varW 3) (consA (bltW lenW (consA (varW 4) nilA)) nilA))))))
    (seqW (asgW false (.nm 8) (bltW tuple1W (consA (compW [16] (.nm 16) (rng1A (consA (bltW lenW (consA (varW 5) nilA)) nilA)) (boolW (binW (inA true) (binW ixW (varW 5) (varW 16)) (varW 4))) (varW 16)) nilA)))
    (seqW (ifW false (orT (notT (truthW (callW S__law_kept (consA (callW S_strange (consA (varW 3) (consA (varW 5) (consA (varW 4) nilA)))) (consA (varW 8) nilA))))) (notT (truthW (callW S__law_kept (consA (callW S_tally (consA (varW 3) (consA (varW 5) (consA (varW 4) nilA)))) (consA (varW 6) nilA)))))) (retW (cstW (.bool false))) nextW)
    (seqW (asgW false (.nm 9) (andV (binW eqW (bltW lenW (consA (varW 8) nilA)) (cstW (.int 0))) (binW eqW (varW 7) (varW 6))))
    (seqW (ifW false (orT (notT (truthW (callW S__law_kept (consA (callW S_is_looked_up (consA (varW 3) (consA (varW 5) (consA (varW 4) (consA (varW 7) nilA))))) (consA (varW 9) nilA))))) (boolW (binW neW (binW eqW (callW S_lack_line (consA (varW 3) (consA (varW 5) (consA (varW 4) (consA (varW 7) nilA))))) (tupW nilA)) (varW 9)))) (retW (cstW (.bool false))) nextW)
    (seqW (asgW false (.nm 10) (compW [12] (.nm 12) (rng1A (consA (varW 3) nilA)) (andT (boolW (binW (inA true) (varW 12) (varW 5))) (boolW (binW (inA true) (varW 12) (varW 4)))) (varW 12)))
    (seqW (asgW false (.nm 11) (lstW nilA))
    (seqW (forW (.nm 12) (rng1A (consA (varW 3) nilA))
    (seqW (ifW false (boolW (binW (inA true) (varW 12) (varW 10))) (seqW (ifW false (boolW (binW notNonW (callW S_check_at (consA (varW 3) (consA (varW 5) (consA (varW 4) (consA (varW 7) (consA (varW 12) nilA)))))) (cstW .non))) (retW (cstW (.bool false))) nextW)
    contW) nextW)
    (seqW (asgW false (.tup [(.nm 13), (.nm 14)]) (callW S__law_sums (consA (varW 3) (consA (varW 5) (consA (varW 4) (consA (varW 7) (consA (varW 12) nilA)))))))
    (seqW (asgW false (.nm 11) (binW addW (varW 11) (ifV (boolW (binW eqW (varW 13) (varW 14))) (lstW (consA (varW 12) nilA)) (lstW nilA))))
    (ifW false (notT (truthW (callW S__law_kept (consA (callW S_check_at (consA (varW 3) (consA (varW 5) (consA (varW 4) (consA (varW 7) (consA (varW 12) nilA)))))) (consA (binW eqW (varW 13) (varW 14)) nilA))))) (retW (cstW (.bool false))) nextW)))))
    (seqW (ifW false (orT (notT (truthW (callW S__law_kept (consA (callW S_passing (consA (varW 3) (consA (varW 5) (consA (varW 4) (consA (varW 7) nilA))))) (consA (bltW tuple1W (consA (varW 11) nilA)) nilA))))) (notT (truthW (callW S__law_kept (consA (callW S_passing_share (consA (varW 3) (consA (varW 5) (consA (varW 4) (consA (varW 7) nilA))))) (consA (ifV (boolW (binW gtW (bltW lenW (consA (varW 10) nilA)) (cstW (.int 0)))) (callW S__law_frac (consA (bltW lenW (consA (varW 11) nilA)) (consA (bltW lenW (consA (varW 10) nilA)) nilA))) (cstW .non)) nilA)))))) (retW (cstW (.bool false))) nextW)
    (seqW (ifW false (orT (notT (truthW (callW S__law_kept (consA (callW S_false_passes (consA (varW 3) (consA (varW 5) (consA (varW 4) (consA (varW 7) nilA))))) (consA (ifV (truthW (varW 9)) (tupW nilA) (bltW tuple1W (consA (varW 11) nilA))) nilA))))) (andT (notT (truthW (varW 9))) (boolW (binW gtW (bltW lenW (consA (varW 11) nilA)) (callW S_most_false (consA (varW 3) (consA (varW 5) (consA (varW 4) nilA)))))))) (retW (cstW (.bool false))) nextW)
    (seqW (ifW false (andT (truthW (varW 9)) (boolW (binW neW (bltW lenW (consA (varW 11) nilA)) (bltW lenW (consA (varW 10) nilA))))) (retW (cstW (.bool false))) nextW)
    (seqW (asgW false (.nm 15) (lstW nilA))
    (seqW (forW (.nm 16) (rng1A (consA (bltW lenW (consA (varW 4) nilA)) nilA))
    (asgW false (.nm 15) (binW addW (varW 15) (binW mulA (lstW (consA (binW ixW (varW 4) (varW 16)) nilA)) (binW ixW (varW 7) (varW 16))))))
    (ifW false (boolW (binW eqW (bltW lenW (consA (varW 15) nilA)) (bltW lenW (consA (varW 5) nilA)))) (seqW (asgW false (.nm 17) (callW S_are_one_lot (consA (varW 3) (consA (varW 5) (consA (bltW tuple1W (consA (varW 15) nilA)) nilA)))))
    (ifW false (orT (boolW (binW neW (varW 17) (binW eqW (bltW sortedW (consA (varW 5) nilA)) (bltW sortedW (consA (varW 15) nilA))))) (orT (andT (truthW (varW 17)) (boolW (binW neW (bltW lenW (consA (callW S_points_agreeing (consA (varW 3) (consA (varW 5) (consA (bltW tuple1W (consA (varW 15) nilA)) nilA)))) nilA)) (varW 3)))) (andT (truthW (varW 9)) (notT (truthW (varW 17)))))) (retW (cstW (.bool false))) nextW)) nextW)))))))))))))))))))
    (retW (cstW (.bool true)))))
end LW

set_option Elab.async false
set_option linter.all false
set_option maxRecDepth 100000
set_option maxHeartbeats 4000000
namespace LW
open PySem PySem.Spec PyProof.Rows L2 DL LM
variable [TabsC]
theorem nT_pd (xs : List Int) : (nT xs).pd = true := by
  rw [D.pd]; exact pds_of fun x hx => by obtain ⟨e, _, rfl⟩ := List.mem_map.mp hx; rfl
theorem btw_iff {i a b : Int} : btw (.int i) a b = true ↔ a ≤ i ∧ i ≤ b := by simp [btw]
theorem cmul_small {a b : Int} (h0 : -1000 ≤ b) (h1 : b ≤ 1000) : CMul a b := .inr ⟨by omega, by omega⟩
theorem cmul_smallL {a b : Int} (h0 : -1000 ≤ a) (h1 : a ≤ 1000) : CMul a b := .inl ⟨by omega, by omega⟩
theorem getElem?_snoc {α : Type} (xs : List α) (i : Nat) {x : α} (h : xs[i]? = some x) : xs.take (i + 1) = xs.take i ++ [x] := by
  rw [List.take_succ, h]; rfl
theorem filter_snoc_t {α : Type} (f : α → Bool) {xs : List α} {i : Nat} {x : α} (h : xs[i]? = some x) (hf : f x = true) : (xs.take (i + 1)).filter f = (xs.take i).filter f ++ [x] := by
  rw [getElem?_snoc _ _ h, List.filter_append, List.filter_cons_of_pos hf]; rfl
theorem filter_snoc_f {α : Type} (f : α → Bool) {xs : List α} {i : Nat} {x : α} (h : xs[i]? = some x) (hf : f x = false) : (xs.take (i + 1)).filter f = (xs.take i).filter f := by
  rw [getElem?_snoc _ _ h, List.filter_append, List.filter_cons_of_neg (by rw [hf]; simp)]; simp
/-- for over things alike -/
theorem for_ints {α : Type} {T : Tgt} {f : WS} {k : SK} (enc : α → D) (xs : List α) {ρ : SEnv} (I : Nat → SEnv → Prop) (h0 : I 0 ρ)
    (st : ∀ i x ρ, xs[i]? = some x → I i ρ → ∃ bs, T.bs (enc x) = some bs ∧ ∀ nxt : SEnv → Prop, (∀ ρ', I (i + 1) ρ' → nxt ρ') → f (setE ρ (bs.map fun b => (b.1, SV.fz b.2))) { k with nx := nxt, ct := nxt, bk := k.nx })
    (he : ∀ ρ, I xs.length ρ → k.nx ρ) : forL T f (xs.map enc) ρ k := by
  refine forL_i I h0 (fun i d ρ hd hi => ?_) (fun ρ h => he ρ (by rw [List.length_map] at h; exact h))
  rw [List.getElem?_map] at hd
  cases hx : xs[i]? with
  | none => rw [hx] at hd; cases hd
  | some x =>
    rw [hx] at hd; cases hd
    exact st i x ρ hx hi
theorem rgD_map (n : Nat) : rgD 0 n = (List.range n).map fun k : Nat => D.int (k : Nat) := by
  unfold rgD
  exact List.map_congr_left fun k _ => by rw [Int.zero_add]
theorem rgD_rangeI (p : Int) : rgD 0 p.toNat = (rangeI p).map D.int := by
  rw [rgD_map]; unfold rangeI; rw [List.map_map]; rfl
theorem allI (P : D → Bool) (xs : List D) : ((xs.map fun x => D.bool (P x)) = (xs.map P).map D.bool) := by rw [List.map_map]; rfl
theorem prime_P {p : Int} (h : primeB p = true) : P97 p := ⟨by have := prime_p97 h; omega, by have := prime_p97 h; omega⟩
theorem atI_last (xs : List D) (a : D) : L2.atI (xs ++ [a]) (-1) = some a := by
  unfold L2.atI ixN
  rw [List.length_append, List.length_singleton]
  have e : (-1 + ((xs.length + 1 : Nat) : Int)).toNat = xs.length := by omega
  rw [if_neg (by decide), if_pos (by omega), e]
  simp
theorem pos_cast {n : Nat} (h : 0 < n) : decide ((0 : Int) < (n : Int)) = true := decide_eq_true (by omega)
theorem rep_unit (x : D) (k : Int) : repD [x] k = List.replicate k.toNat x := by
  unfold repD
  induction k.toNat with
  | zero => rfl
  | succ n ih => rw [List.replicate_succ, List.flatten_cons, ih, List.replicate_succ]; rfl
theorem enum_ints (xs : List Int) : enumD (xs.map D.int) = xs.zipIdx.map fun q => D.lt [.int (q.2 : Nat), .int q.1] := by
  unfold enumD
  rw [List.zipIdx_map, List.map_map]; rfl
theorem zipIdx_some {α : Type} {xs : List α} {i : Nat} {q : α × Nat} (h : xs.zipIdx[i]? = some q) : xs[i]? = some q.1 ∧ q.2 = i := by
  rw [List.getElem?_zipIdx] at h
  cases hx : xs[i]? with
  | none => rw [hx] at h; cases h
  | some x => rw [hx] at h; simp at h; subst h; exact ⟨rfl, rfl⟩
theorem lt_of_some {α : Type} {xs : List α} {i : Nat} {x : α} (h : xs[i]? = some x) : i < xs.length := by
  rcases Nat.lt_or_ge i xs.length with q | q
  · exact q
  · rw [List.getElem?_eq_none q] at h; cases h
theorem atI_ints (xs : List Int) {i : Nat} (h : i < xs.length) : L2.atI (xs.map D.int) (i : Int) = some (.int (xs.getD i 0)) := by
  have hh := atI_int (xs.map D.int) (i : Int) (by omega) (by rw [List.length_map]; omega)
  rw [hh, List.getElem_map, List.getD_eq_getElem?_getD, List.getElem?_eq_getElem h]; rfl
theorem ixN_nat {n i : Nat} (h : i < n) : ixN n (i : Int) = some i := by
  unfold ixN
  rw [if_pos (by omega), if_pos (by omega)]
  rfl
theorem inr_all {p : Int} {xs : List Int} : ((xs.map D.int).all fun x => btw x 0 (p - 1)) = true ↔ InR p xs := by
  rw [List.all_map, List.all_eq_true]
  constructor
  · intro h a ha
    have := btw_iff.mp (h a ha)
    omega
  · intro h a ha
    have := h a ha
    exact btw_iff.mpr (by omega)
theorem isPrime_int {p : Int} : isPrime (.int p) = primeB p := rfl
theorem pI_int {p : Int} : pI (.int p) = p := rfl
theorem getLast_map (xs : List Int) : (xs.map D.int).getLast? = (xs.getLast?).map D.int := by rw [List.getLast?_map]
theorem pow_mod_succ (x p : Int) (i : Nat) : x ^ i % p * x % p = x ^ (i + 1) % p := by
  rw [Int.pow_succ, Int.mul_emod, Int.emod_emod_of_dvd _ (Int.dvd_refl p), ← Int.mul_emod]
theorem cutD_nn (xs : List D) (i j : Nat) : DL.cutD xs (some (i : Int)) (some (j : Int)) = (xs.drop i).take (j - i) := by
  unfold DL.cutD
  rw [HT.sIx_nat, HT.sIx_nat]
  rcases Nat.le_total i xs.length with h | h
  · rw [Nat.min_eq_left h]
    rcases Nat.le_total j xs.length with h2 | h2
    · rw [Nat.min_eq_left h2]
    · rw [Nat.min_eq_right h2, List.take_of_length_le (by rw [List.length_drop]; exact Nat.le_refl _), List.take_of_length_le (by rw [List.length_drop]; omega)]
  · rw [Nat.min_eq_right h, List.drop_length, List.take_nil, List.drop_eq_nil_of_le h, List.take_nil]
theorem some_any {κ β : Type} [DecidableEq κ] (kvs : List (κ × β)) (k : κ) : (valD kvs k).isSome = kvs.any fun kv => decide (kv.1 = k) := by
  unfold valD
  rw [Option.isSome_map]
  induction kvs with
  | nil => rfl
  | cons p kvs ih =>
    rw [List.find?_cons, List.any_cons]
    cases hq : decide (p.1 = k) with
    | true => rfl
    | false => simpa using ih
theorem mem_put {κ β : Type} [DecidableEq κ] (kvs : List (κ × β)) (k k' : κ) (v : β) : (valD (putD kvs k v) k').isSome = ((valD kvs k').isSome || decide (k = k')) := by
  rw [some_any, some_any]
  unfold putD
  split
  · rename_i ha
    have e : ((kvs.map fun kv => if kv.1 = k then (kv.1, v) else kv).any fun kv => decide (kv.1 = k')) = kvs.any fun kv => decide (kv.1 = k') := by
      rw [List.any_map]
      congr 1
      funext kv
      show decide ((if kv.1 = k then (kv.1, v) else kv).1 = k') = _
      split <;> rfl
    rw [e]
    by_cases hk : k = k'
    · subst hk
      rw [ha]; rfl
    · rw [decide_eq_false hk, Bool.or_false]
  · rw [List.any_append]
    simp
theorem put_len {κ β : Type} [DecidableEq κ] (kvs : List (κ × β)) (k : κ) (v : β) : (putD kvs k v).length ≤ kvs.length + 1 := by
  unfold putD
  split <;> simp
theorem mem_merge (k : Key) : ∀ (more kvs : List (Key × D)), (valD (mergeD kvs more) k).isSome = ((valD kvs k).isSome || (valD more k).isSome)
  | [], kvs => by simp [mergeD, valD]
  | p :: more, kvs => by
    have ih := mem_merge k more (putD kvs p.1 p.2)
    unfold mergeD at ih ⊢
    rw [List.foldl_cons, ih, mem_put, some_any (p :: more), List.any_cons, some_any more, Bool.or_assoc]
theorem merge_len : ∀ (more kvs : List (Key × D)), (mergeD kvs more).length ≤ kvs.length + more.length
  | [], kvs => by simp [mergeD]
  | p :: more, kvs => by
    have ih := merge_len more (putD kvs p.1 p.2)
    have := put_len kvs p.1 p.2
    unfold mergeD at ih ⊢
    rw [List.foldl_cons, List.length_cons]; omega
theorem mem_fold {α : Type} (kf : α → Key) (g : α → D) (k : Key) : ∀ (xs : List α) (acc : List (Key × D)), (valD (xs.foldl (fun a x => putD a (kf x) (g x)) acc) k).isSome = ((valD acc k).isSome || xs.any fun x => decide (kf x = k))
  | [], acc => by simp
  | x :: xs, acc => by
    rw [List.foldl_cons, mem_fold kf g k xs, mem_put, List.any_cons, Bool.or_assoc]
theorem fold_len {α : Type} (kf : α → Key) (g : α → D) : ∀ (xs : List α) (acc : List (Key × D)), (xs.foldl (fun a x => putD a (kf x) (g x)) acc).length ≤ acc.length + xs.length
  | [], acc => by simp
  | x :: xs, acc => by
    have := fold_len kf g xs (putD acc (kf x) (g x))
    have := put_len acc (kf x) (g x)
    rw [List.foldl_cons, List.length_cons]; omega
theorem inA_k {neg : Bool} {i : Int} {kvs : List (Key × D)} {K : D → Prop} (h : K (.bool (if neg then !(valD kvs (.inl i)).isSome else (valD kvs (.inl i)).isSome))) : inA neg (.int i) (encK kvs) K := ⟨kvs, .inl i, rfl, rfl, h⟩
/-- a dict comprehension over encoded things -/
theorem loopD_map {α : Type} {ρ : Env'} {T : Tgt} {ke ve : WE} {K : List (Key × D) → Prop} (enc : α → D) (kf : α → Key) (g : α → D) : ∀ (xs : List α) (acc : List (Key × D)), acc.length + xs.length ≤ 16777216 →
    (∀ x ∈ xs, ∃ bs, T.bs (enc x) = some bs ∧ ∀ N : D → D → Prop, N (D.ofKey (kf x)) (g x) → ke (setE ρ bs) (fun y => ve (setE ρ bs) (fun z => N y z) (fun _ => False)) (fun _ => False)) →
    K (xs.foldl (fun a x => putD a (kf x) (g x)) acc) → loopD ρ T yesT ke ve (xs.map enc) acc K
  | [], acc, _, _, h => h
  | x :: xs, acc, hl, st, h => by
    rw [List.length_cons] at hl
    rw [List.map_cons, loopD]
    obtain ⟨bs, e, q⟩ := st x (List.mem_cons_self ..)
    rw [e]
    have ih := loopD_map enc kf g xs (putD acc (kf x) (g x)) (by have := put_len acc (kf x) (g x); omega) (fun y hy => st y (List.mem_cons_of_mem _ hy)) h
    unfold yesT
    dsimp only
    rw [if_pos rfl]
    exact q (fun y z => ∃ k, y = D.ofKey k ∧ acc.length < 16777216 ∧ loopD ρ T yesT ke ve (xs.map enc) (putD acc k z) K) ⟨kf x, rfl, by omega, ih⟩
theorem flats_ints : ∀ xs : List Int, D.flats (xs.map D.int) = true
  | [] => by rw [List.map_nil, D.flats]
  | x :: xs => by simp [D.flats, D.flat, flats_ints xs]
theorem flat_ints (xs : List Int) : (D.tuple (xs.map D.int)).flat = true := by
  rw [D.flat]; exact flats_ints xs
theorem putD_new {κ β : Type} [DecidableEq κ] (kvs : List (κ × β)) (k : κ) (v : β) (h : (valD kvs k).isSome = false) : putD kvs k v = kvs ++ [(k, v)] := by
  rw [some_any] at h
  unfold putD
  rw [if_neg (by rw [h]; simp)]
theorem fold_nodup {α : Type} (kf : α → Key) (g : α → D) : ∀ (xs : List α) (acc : List (Key × D)), (xs.map kf).Nodup → (∀ x ∈ xs, (valD acc (kf x)).isSome = false) → xs.foldl (fun a x => putD a (kf x) (g x)) acc = acc ++ xs.map fun x => (kf x, g x)
  | [], acc, _, _ => by simp
  | x :: xs, acc, hn, h => by
    rw [List.map_cons, List.nodup_cons] at hn
    rw [List.foldl_cons, putD_new _ _ _ (h x (List.mem_cons_self ..)), fold_nodup kf g xs _ hn.2 fun y hy => ?_]
    · simp
    · have h1 := h y (List.mem_cons_of_mem _ hy)
      rw [some_any] at h1 ⊢
      rw [List.any_append, h1, Bool.false_or]
      have : kf x ≠ kf y := fun e => hn.1 (e ▸ List.mem_map.mpr ⟨y, hy, rfl⟩)
      simp [this]
theorem nodup_keys {α : Type} {f : α → Int} {xs : List α} (h : (xs.map f).Nodup) : (xs.map fun q => (Sum.inl (f q) : Key)).Nodup := by
  rw [List.nodup_iff_pairwise_ne, List.pairwise_map] at h ⊢
  exact h.imp fun {a b} h e => h (Sum.inl.inj e)
theorem all_yes {α : Type} (xs : List α) : ((xs.map fun _ => true).all id) = true := by simp
theorem pdP (q : Int × Int) : (pD q).pd = true := by rw [D.pd]; rfl
theorem psD_pd (ps : List (Int × Int)) : (psD ps).pd = true := by
  rw [D.pd]; exact pds_of fun x hx => by obtain ⟨e, _, rfl⟩ := List.mem_map.mp hx; exact pdP e
theorem btw_int {x : D} {a b : Int} (h : btw x a b = true) : ∃ i, x = .int i ∧ a ≤ i ∧ i ≤ b := by
  cases x with
  | int i => exact ⟨i, rfl, btw_iff.mp h⟩
  | _ => cases h
theorem fits_all (p : Int) (ps : List (Int × Int)) (f : List Int) : ((ps.map fun q => (ev p f q.1 == q.2)).all id) = fits p ps f := by
  unfold fits; rw [List.all_map]; rfl
theorem cm_nL (xs : List Int) : (nL xs).cm = true := (cmn_lst fun x hx => by obtain ⟨i, _, rfl⟩ := List.mem_map.mp hx; exact cmn_int i : cmn 1 (nL xs)).cm
theorem cm_nT (xs : List Int) : (nT xs).cm = true := (cmn_ints xs).cm
theorem eqv_nL (xs ys : List Int) : (nL xs).eqv (nL ys) = decide (xs = ys) := eqv_lst eqv_i xs ys
theorem eqv_nT (xs ys : List Int) : (nT xs).eqv (nT ys) = decide (xs = ys) := eqv_tup eqv_i xs ys
theorem eqv_int_non (i : Int) : (D.int i).eqv .non = false := by unfold D.eqv; rw [D.py, D.py, PyData.eqv]; all_goals simp
theorem eqv_non_int (i : Int) : D.non.eqv (.int i) = false := by unfold D.eqv; rw [D.py, D.py, PyData.eqv]; all_goals simp
theorem perm_ints {ys : List D} {xs : List Int} (h : ys.Perm (xs.map D.int)) : ∃ zs : List Int, ys = zs.map D.int ∧ zs.Perm xs := by
  refine ⟨ys.map pI, ?_, ?_⟩
  · rw [List.map_map]
    conv => lhs; rw [← List.map_id ys]
    refine List.map_congr_left fun y hy => ?_
    obtain ⟨x, _, rfl⟩ := List.mem_map.mp (h.subset hy)
    rfl
  · have := h.map pI
    rw [List.map_map] at this
    rw [show (pI ∘ D.int) = id from rfl, List.map_id] at this
    exact this
theorem inr_dec {p : Int} {xs : List Int} (h : (xs.all fun a => decide (0 ≤ a) && decide (a < p)) = true) : InR p xs := fun a ha => by
  have := List.all_eq_true.mp h a ha
  rw [Bool.and_eq_true] at this
  exact ⟨of_decide_eq_true this.1, of_decide_eq_true this.2⟩
theorem list_pd {xs : List D} (h : (D.tuple xs).pd = true) : (D.list xs).pd = true := by
  simp only [D.pd] at h ⊢
  exact h
theorem ev_plus (p : Int) (f g : List Int) (x : Int) : ev p (plusL p f g) x = (ev p f x + ev p g x) % p := by
  rw [ev_pv, pv_plus, Int.add_emod, ← ev_pv, ← ev_pv]
theorem ev_scale {p : Int} (f : List Int) (c x : Int) : ev p (scaleL p f c) x = ev p f x * c % p := by
  rw [ev_pv, pv_scale, ev_pv, Int.mul_emod (pv f x % p), Int.emod_emod_of_dvd _ (Int.dvd_refl p), ← Int.mul_emod]
theorem ev_mul (p : Int) (f g : List Int) (x : Int) : ev p (mulL p f g) x = ev p f x * ev p g x % p := by
  rw [ev_pv, pv_mul, ev_pv, ev_pv, ← Int.mul_emod]
theorem any_mem (x : Int) (xs : List Int) : ((xs.map D.int).any fun z => z.eqv (.int x)) = decide (x ∈ xs) := by
  rw [List.any_map, Bool.eq_iff_iff, List.any_eq_true, decide_eq_true_iff]
  constructor
  · rintro ⟨y, hy, e⟩
    have : (D.int y).eqv (.int x) = true := e
    rw [eqv_int, beq_iff_eq] at this
    exact this ▸ hy
  · intro h
    exact ⟨x, h, by show (D.int x).eqv (.int x) = true; rw [eqv_int]; simp⟩
theorem all_inr {p : Int} {xs : List Int} (h : InR p xs) : ((xs.map fun x => btw (.int x) 0 (p - 1)).all id) = true := by
  rw [List.all_map, List.all_eq_true]
  intro a ha
  have := h a ha
  exact btw_iff.mpr ⟨this.1, by omega⟩
end LW

set_option Elab.async false
set_option linter.all false
set_option maxRecDepth 100000
set_option maxHeartbeats 4000000
namespace LW
open PySem PySem.Spec PyProof.Rows L2 DL LM
variable [TabsC]
local macro_rules | `(tactic| and_intros) => `(tactic| try simp only [↓hold_ap, ↓cond_t, ↓cond_f, cond_t, cond_f, seqW_a, nextW_a, breakW_a, contW_a, exprW_a, retW_a, retN_a, setK_a, asgW_a, ownW_a, parW_a, ifW_a, forW_a, forRW_a, frzW_a, raiseW_a, appW_a, extW_a, trkW_a, putW_a, retHW_a, varW_a, cstW_a, binW_a, tupW_a, lstW_a, consA_a, nilA_a, callW_a, bltW_a, rng1A_a, rng2A_a, rng3A_a, zipA_a, seqA_a, compW_a, comp2W_a, andV_a, orV_a, notV_a, ifV_a, chainW_a, andT_a, orT_a, notT_a, boolW_a, truthW_a, negW_a, slcW_a, noO_a, someO_a, yesT_a, getW_a, sortIW_a, lamW_a, revW_a, setIW_a, augW_a, popW_a, appPopW_a, parOW_a, parOOW_a, updW_a, dcW_a, enumA_a, lrg1W_a, lrg2W_a, trg1W_a, trg2W_a, par3W_a, lenSetW_a, asgFW_a, setFW_a, swpW_a, cntW_a, eqA, neA, reprW, lenA, fdivA, minLW, maxLW, seqK, boolK, truthK, D.truth, slK, ixW, ixK, ixuW, eqW, neW, addW, subW, mulA, repL, fdivW, modW, powW, intW, ltW, leW, gtW, geW, isNonW, notNonW, inA, reprW, lenW, absW, int1W, max2W_e, min2W_e, tuple1W, list1W, sumW, allW, anyW, isiW, sortedW, ownL, startE, view, SV.view, Tgt.bs, Tgt.bss, setE, frzE, wipeD, D.ty, eqv_int, eqv_bool, cm_int, cm_bool, cm_non, atI_0, atI_1, atI_2, D.isNon, List.map_cons, List.map_nil, List.length_cons, List.length_nil, List.replicate, List.cons_append, List.nil_append, List.getElem?_cons_zero, List.getElem?_cons_succ, List.getElem?_nil, List.set_cons_zero, List.set_cons_succ, List.foldl_cons, List.foldl_nil, Option.map_some, Option.bind_some, reduceCtorEq, if_true, if_false, Bool.false_eq_true, ite_true, ite_false, false_implies, forall_const, true_and, and_true, Nat.reduceSub, Nat.reduceAdd, List.append_nil, sizeLine_eq, Bool.not_true, Bool.not_false, decide_true, decide_false, eq_self, Int.cast_ofNat_Int, Int.natCast_zero, Int.natCast_one, beq_self_eq_true, Option.getD_some, Option.getD_none, kb_NoneType_int, kb_NoneType_str, kb_NoneType_list, kb_NoneType_tuple, kb_NoneType_dict, kb_NoneType_bool, kb_bool_int, kb_bool_str, kb_bool_list, kb_bool_tuple, kb_bool_dict, kb_bool_bool, kb_int_int, kb_int_str, kb_int_list, kb_int_tuple, kb_int_dict, kb_int_bool, kb_str_int, kb_str_str, kb_str_list, kb_str_tuple, kb_str_dict, kb_str_bool, kb_list_int, kb_list_str, kb_list_list, kb_list_tuple, kb_list_dict, kb_list_bool, kb_tuple_int, kb_tuple_str, kb_tuple_list, kb_tuple_tuple, kb_tuple_dict, kb_tuple_bool, kb_dict_int, kb_dict_str, kb_dict_list, kb_dict_tuple, kb_dict_dict, kb_dict_bool])
theorem rd_is_integer (ds : List D) (Kr : D → Prop) (Kx : String → Prop) (h : S_is_integer ds Kr Kx) : W_is_integer (startE N_is_integer ds) ⟨fun _ => Kr .non, Kr, fun _ => False, fun _ => False, Kx⟩ := by
  obtain ⟨d, rfl, ht, h⟩ := h
  simp only [W_is_integer, seqW, nextW, breakW, contW, exprW, retW, retN, setK, asgW, ownW, parW, ifW, forW, forRW, frzW, raiseW, appW, extW, trkW, putW, retHW, varW, cstW, binW, tupW, lstW, consA, nilA, callW, bltW, rng1A, rng2A, rng3A, zipA, seqA, seqK, compW, comp2W, andV, orV, notV, ifV, chainW, andT, orT, notT, boolW, boolK, truthW, truthK, D.truth, negW, slcW, slK, noO, someO, yesT, ixW, ixK, ixuW, getW, sortIW, lamW, eqW, neW, addW, subW, mulA, repL, fdivW, modW, powW, intW, ltW, leW, gtW, geW, isNonW, notNonW, inA, reprW, lenW, absW, int1W, max2W, min2W, tuple1W, list1W, sumW, allW, anyW, isiW, sortedW, ownL, startE, view, SV.view, Tgt.bs, Tgt.bss, setE, frzE, wipeD, List.map_cons, List.map_nil, List.length_cons, List.length_nil, List.replicate, List.cons_append, List.nil_append, List.getElem?_cons_zero, List.getElem?_cons_succ, List.getElem?_nil, List.set_cons_zero, List.set_cons_succ, List.foldl_cons, List.foldl_nil, Option.map_some, Option.bind_some, reduceCtorEq, if_true, if_false, Bool.false_eq_true, ite_true, ite_false, false_implies, forall_const, true_and, and_true, Nat.reduceSub, Nat.reduceAdd, List.append_nil, sizeLine_eq, Bool.not_true, Bool.not_false, decide_true, decide_false, eq_self, Int.cast_ofNat_Int, Int.natCast_zero, Int.natCast_one, beq_self_eq_true, Option.getD_some, Option.getD_none]
  cases d <;> first | simpa [D.ty, kb_NoneType_int, kb_NoneType_str, kb_NoneType_list, kb_NoneType_tuple, kb_NoneType_dict, kb_NoneType_bool, kb_bool_int, kb_bool_str, kb_bool_list, kb_bool_tuple, kb_bool_dict, kb_bool_bool, kb_int_int, kb_int_str, kb_int_list, kb_int_tuple, kb_int_dict, kb_int_bool, kb_str_int, kb_str_str, kb_str_list, kb_str_tuple, kb_str_dict, kb_str_bool, kb_list_int, kb_list_str, kb_list_list, kb_list_tuple, kb_list_dict, kb_list_bool, kb_tuple_int, kb_tuple_str, kb_tuple_list, kb_tuple_tuple, kb_tuple_dict, kb_tuple_bool, kb_dict_int, kb_dict_str, kb_dict_list, kb_dict_tuple, kb_dict_dict, kb_dict_bool, isInt] using h | simp [D.pd] at ht
theorem rd_is_between (ds : List D) (Kr : D → Prop) (Kx : String → Prop) (h : S_is_between ds Kr Kx) : W_is_between (startE N_is_between ds) ⟨fun _ => Kr .non, Kr, fun _ => False, fun _ => False, Kx⟩ := by
  obtain ⟨d, a, b, rfl, ht, h⟩ := h
  simp only [W_is_between, seqW, nextW, breakW, contW, exprW, retW, retN, setK, asgW, ownW, parW, ifW, forW, forRW, frzW, raiseW, appW, extW, trkW, putW, retHW, varW, cstW, binW, tupW, lstW, consA, nilA, callW, bltW, rng1A, rng2A, rng3A, zipA, seqA, seqK, compW, comp2W, andV, orV, notV, ifV, chainW, andT, orT, notT, boolW, boolK, truthW, truthK, D.truth, negW, slcW, slK, noO, someO, yesT, ixW, ixK, ixuW, getW, sortIW, lamW, eqW, neW, addW, subW, mulA, repL, fdivW, modW, powW, intW, ltW, leW, gtW, geW, isNonW, notNonW, inA, reprW, lenW, absW, int1W, max2W, min2W, tuple1W, list1W, sumW, allW, anyW, isiW, sortedW, ownL, startE, view, SV.view, Tgt.bs, Tgt.bss, setE, frzE, wipeD, List.map_cons, List.map_nil, List.length_cons, List.length_nil, List.replicate, List.cons_append, List.nil_append, List.getElem?_cons_zero, List.getElem?_cons_succ, List.getElem?_nil, List.set_cons_zero, List.set_cons_succ, List.foldl_cons, List.foldl_nil, Option.map_some, Option.bind_some, reduceCtorEq, if_true, if_false, Bool.false_eq_true, ite_true, ite_false, false_implies, forall_const, true_and, and_true, Nat.reduceSub, Nat.reduceAdd, List.append_nil, sizeLine_eq, Bool.not_true, Bool.not_false, decide_true, decide_false, eq_self, Int.cast_ofNat_Int, Int.natCast_zero, Int.natCast_one, beq_self_eq_true, Option.getD_some, Option.getD_none]
  refine ⟨d, rfl, ht, ?_⟩
  cases d with
  | int i =>
    simp only [isInt, if_true]
    by_cases h1 : a ≤ i
    · simpa [h1, btw] using h
    · simpa [h1, btw] using h
  | _ => simpa [isInt, btw] using h
theorem rd_is_prime (ds : List D) (Kr : D → Prop) (Kx : String → Prop) (h : S_is_prime ds Kr Kx) : W_is_prime (startE N_is_prime ds) ⟨fun _ => Kr .non, Kr, fun _ => False, fun _ => False, Kx⟩ := by
  obtain ⟨d, rfl, ht, h⟩ := h
  unfold W_is_prime
  and_intros
  refine ⟨d, 3, 97, rfl, ht, ?_⟩
  and_intros
  have no : (∀ i, d ≠ .int i) → Kr (.bool false) := fun hn => by
    cases d with
    | int i => exact absurd rfl (hn i)
    | _ => exact h
  cases d with
  | int i =>
    cases hb : btw (.int i) 3 97 with
    | false =>
      and_intros
      have : isPrime (.int i) = false := by
        show (decide (3 ≤ i) && decide (i ≤ 97) && _) = false
        rw [show (decide (3 ≤ i) && decide (i ≤ 97)) = btw (.int i) 3 97 from rfl, hb]; rfl
      rw [this] at h; exact h
    | true =>
      obtain ⟨h3, h97⟩ := btw_iff.mp hb
      and_intros
      refine ⟨⟨by decide, by decide, by omega, by omega⟩, ?_⟩
      have e : rgD 2 (i - 2).toNat = (List.range (i - 2).toNat).map fun k : Nat => D.int (2 + (k : Nat)) := rfl
      rw [e]
      refine loopC_map _ (fun k : Nat => .bool (i % (2 + (k : Int)) != 0)) _ (fun k _ => ⟨_, rfl, fun N hN => ?_⟩) ?_
      · and_intros
        exact ⟨by omega, hN⟩
      · and_intros
        refine ⟨(List.range (i - 2).toNat).map fun k : Nat => (i % (2 + (k : Int)) != 0), by rw [List.map_map]; rfl, ?_⟩
        rw [List.all_map]
        have : isPrime (.int i) = ((List.range (i - 2).toNat).all fun k : Nat => i % (2 + (k : Int)) != 0) := by
          show (decide (3 ≤ i) && decide (i ≤ 97) && _) = _
          rw [decide_eq_true h3, decide_eq_true h97]; rfl
        rw [this] at h; exact h
  | _ => rw [show ∀ {a b : Int}, btw _ a b = false from rfl]; and_intros; exact no (by simp)
theorem rd_need_prime (ds : List D) (Kr : D → Prop) (Kx : String → Prop) (h : S_need_prime ds Kr Kx) : W_need_prime (startE N_need_prime ds) ⟨fun _ => Kr .non, Kr, fun _ => False, fun _ => False, Kx⟩ := by
  obtain ⟨d, rfl, ht, h⟩ := h
  unfold W_need_prime
  and_intros
  refine ⟨d, rfl, ht, ?_⟩
  cases hg : isPrime d <;> rw [hg] at h <;> (and_intros; simpa using h)
theorem need_prime_ok {p : Int} {K : D → Prop} {X : String → Prop} (hp : primeB p = true) (k : K .non) : S_need_prime [.int p] K X :=
  ⟨_, rfl, rfl, by rw [isPrime_int, hp, if_pos rfl]; exact k⟩
theorem rd_is_number (ds : List D) (Kr : D → Prop) (Kx : String → Prop) (h : S_is_number ds Kr Kx) : W_is_number (startE N_is_number ds) ⟨fun _ => Kr .non, Kr, fun _ => False, fun _ => False, Kx⟩ := by
  obtain ⟨p, d, rfl, ht, h⟩ := h
  unfold W_is_number
  and_intros
  exact ⟨d, 0, p - 1, rfl, ht, h⟩
theorem rd_power_of (ds : List D) (Kr : D → Prop) (Kx : String → Prop) (h : S_power_of ds Kr Kx) : W_power_of (startE N_power_of ds) ⟨fun _ => Kr .non, Kr, fun _ => False, fun _ => False, Kx⟩ := by
  obtain ⟨p, x, n, rfl, hp, hn, h⟩ := h
  unfold W_power_of
  and_intros
  refine ⟨⟨by omega, by omega⟩, ?_⟩
  rw [rgD_map]
  refine for_ints _ _ (fun i ρ => ρ.length = 5 ∧ ρ[0]? = some (some (.fz (.int p))) ∧ ρ[1]? = some (some (.fz (.int x))) ∧ ρ[3]? = some (some (.fz (.int (x ^ i % p))))) ⟨rfl, rfl, rfl, ?_⟩ (fun i d ρ hd ⟨hl, h0, h1, h3⟩ => ?_) (fun ρ ⟨hl, h0, h1, h3⟩ => ?_)
  · rw [Int.pow_zero, Int.emod_eq_of_lt (by decide) (by omega)]; rfl
  · match ρ, hl with
    | [r0, r1, r2, r3, r4], _ =>
      simp at h0 h1 h3
      subst h0 h1 h3
      refine ⟨_, rfl, fun nxt hn => ?_⟩
      and_intros
      have := Int.emod_nonneg (x ^ i) (show p ≠ 0 by omega)
      have := Int.emod_lt_of_pos (x ^ i) (show 0 < p by omega)
      refine ⟨cmul_smallL (by omega) (by omega), by omega, hn _ ⟨rfl, rfl, rfl, ?_⟩⟩
      rw [Int.pow_succ, Int.mul_emod, Int.emod_emod_of_dvd _ (Int.dvd_refl p), ← Int.mul_emod]; rfl
  · rw [List.length_range] at h3
    match ρ, hl with
    | [r0, r1, r2, r3, r4], _ =>
      simp at h0 h1 h3
      subst h0 h1 h3
      and_intros
      exact h
theorem rd_trimmed (ds : List D) (Kr : D → Prop) (Kx : String → Prop) (h : S_trimmed ds Kr Kx) : W_trimmed (startE N_trimmed ds) ⟨fun _ => Kr .non, Kr, fun _ => False, fun _ => False, Kx⟩ := by
  obtain ⟨t, xs, rfl, ht, h⟩ := h
  unfold W_trimmed
  have go : ∀ t : D, whileW true (andT (boolW (binW gtW (bltW lenW (consA (varW 1) nilA)) (cstW (.int 0)))) (boolW (binW eqW (binW ixW (varW 1) (negW (cstW (.int 1)))) (cstW (.int 0))))) (popW 1) [some (.fz t), some (.own (nL xs))] ⟨fun ρ => retW (bltW tuple1W (consA (varW 1) nilA)) ρ ⟨fun _ => Kr .non, Kr, fun _ => False, fun _ => False, Kx⟩, Kr, fun _ => False, fun _ => False, Kx⟩ := by
    intro t
    unfold whileW
    refine ⟨fun n ρ => ∃ ys, n = ys.length ∧ ρ = [some (.fz t), some (.own (nL ys))] ∧ trim ys = trim xs, ⟨_, xs, rfl, rfl, rfl⟩, fun n ρ ⟨ys, hn, hr, hy⟩ => ?_⟩
    subst hn hr
    rcases List.eq_nil_or_concat ys with e | ⟨zs, a, e⟩
    · subst e
      and_intros
      rw [if_neg (by decide)]
      rw [← hy] at h
      exact h
    · rw [List.concat_eq_append] at e
      subst e
      and_intros
      rw [List.length_map, pos_cast (by simp)]
      and_intros
      rw [List.map_append, List.map_cons, List.map_nil, atI_last]
      and_intros
      by_cases ha : a = 0
      · subst ha
        and_intros
        refine ⟨by simp, zs.length, by simp, zs, rfl, by rw [List.dropLast_concat], ?_⟩
        rw [← hy, trim_snoc, if_pos rfl]
      · rw [show (a == 0) = false by simp [ha]]
        and_intros
        rw [← hy, trim_snoc, if_neg ha] at h
        unfold nT at h
        rw [List.map_append] at h
        exact h
  rcases ht with rfl | rfl
  · and_intros
    exact go _
  · and_intros
    exact go _
theorem rd_plus_lines (ds : List D) (Kr : D → Prop) (Kx : String → Prop) (h : S_plus_lines ds Kr Kx) : W_plus_lines (startE N_plus_lines ds) ⟨fun _ => Kr .non, Kr, fun _ => False, fun _ => False, Kx⟩ := by
  obtain ⟨p, xs, ys, rfl, hp, hx, hy, h⟩ := h
  unfold W_plus_lines
  rw [seqW_s]
  and_intros
  intro M hM
  rw [hold2_ap, seqW_s]
  and_intros
  rw [List.length_map, List.length_map] at hM
  have em : M = ((max xs.length ys.length : Nat) : Int) := by omega
  subst em
  rw [show [D.tuple (xs.map D.int), D.tuple (ys.map D.int)] = [xs, ys].map nT from rfl]
  refine ⟨by decide, ?_⟩
  refine loopC_map nT (fun zs => nT (padTo (max xs.length ys.length) zs)) [xs, ys] (fun zs hz => ⟨_, rfl, fun N hN => ?_⟩) ?_
  · have hzl : zs.length ≤ 1000 := by
      rcases List.mem_cons.mp hz with rfl | hz
      · exact hx
      · simp at hz; subst hz; exact hy
    and_intros
    rw [List.length_map]
    refine ⟨by omega, by omega, ?_⟩
    have e : repD [D.int 0] (((max xs.length ys.length : Nat) : Int) - (zs.length : Int)) = (List.replicate (max xs.length ys.length - zs.length) (0 : Int)).map D.int := by
      rw [rep_unit, List.map_replicate]; congr 1; omega
    rw [e, ← List.map_append, List.length_map, List.length_replicate]
    exact ⟨by omega, hN⟩
  · and_intros
    rw [hold2_ap]
    and_intros
    rw [zipD_map]
    refine loopC_map _ (fun q => .int ((q.1 + q.2) % p)) _ (fun q _ => ⟨_, rfl, fun N hN => ?_⟩) ?_
    · and_intros
      exact ⟨hp, hN⟩
    · and_intros
      refine ⟨_, addM p xs ys, rfl, .inr ?_, h⟩
      unfold nL addM
      rw [← List.map_uncurry_zip_eq_zipWith, List.map_map]
      rfl
theorem rd_times_lines (ds : List D) (Kr : D → Prop) (Kx : String → Prop) (h : S_times_lines ds Kr Kx) : W_times_lines (startE N_times_lines ds) ⟨fun _ => Kr .non, Kr, fun _ => False, fun _ => False, Kx⟩ := by
  obtain ⟨p, xs, ys, rfl, hp, hx, hxl, hyl, h⟩ := h
  unfold W_times_lines
  and_intros
  refine ⟨by decide, fun M hM => ?_⟩
  rw [List.length_map, List.length_map] at hM
  have em : M = ((xs.length + ys.length - 1 : Nat) : Int) := by omega
  subst em
  refine ⟨⟨by omega, by omega, by omega⟩, ?_⟩
  rw [rep_unit, Int.toNat_natCast, ← List.map_replicate, enum_ints]
  generalize hZ : List.replicate (xs.length + ys.length - 1) (0 : Int) = Z
  have hZl : Z.length = xs.length + ys.length - 1 := by rw [← hZ, List.length_replicate]
  refine for_ints _ _ (fun i ρ => ∃ r4 r5 r6 r7, ρ = [some (.fz (.int p)), some (.fz (nT xs)), some (.fz (nT ys)), some (.own (nL (outer p ys (xs.take i) 0 Z))), r4, r5, r6, r7]) ⟨_, _, _, _, rfl⟩ (fun i q ρ hd ⟨r4, r5, r6, r7, hr⟩ => ?_) (fun ρ ⟨r4, r5, r6, r7, hr⟩ => ?_)
  · subst hr
    obtain ⟨a, i'⟩ := q
    obtain ⟨hd, e⟩ := zipIdx_some hd
    dsimp only at hd e
    subst e
    have hil := lt_of_some hd
    have ha := hx a (List.mem_of_getElem? hd)
    have hol : (outer p ys (xs.take i') 0 Z).length = Z.length := outer_len ..
    have hos : outer p ys (xs.take (i' + 1)) 0 Z = inner p a i' ys 0 (outer p ys (xs.take i') 0 Z) := by
      rw [getElem?_snoc _ _ hd, outer_snoc, List.length_take, Nat.zero_add, Nat.min_eq_left (by omega)]
    rw [hos]
    generalize outer p ys (xs.take i') 0 Z = O at hol ⊢
    refine ⟨_, rfl, fun nxt hn => ?_⟩
    and_intros
    rw [enum_ints]
    refine for_ints _ _ (fun j ρ => ∃ r6 r7, ρ = [some (.fz (.int p)), some (.fz (nT xs)), some (.fz (nT ys)), some (.own (nL (inner p a i' (ys.take j) 0 O))), some (.fz (.int (i' : Nat))), some (.fz (.int a)), r6, r7]) ⟨_, _, rfl⟩ (fun j q ρ hd ⟨r6, r7, hr⟩ => ?_) (fun ρ ⟨r6, r7, hr⟩ => ?_)
    · subst hr
      obtain ⟨b, j'⟩ := q
      obtain ⟨hd2, e⟩ := zipIdx_some hd
      dsimp only at hd2 e
      subst e
      have hjl := lt_of_some hd2
      have hil2 : (inner p a i' (ys.take j') 0 O).length = O.length := inner_len ..
      have his : inner p a i' (ys.take (j' + 1)) 0 O = (inner p a i' (ys.take j') 0 O).set (i' + j') (((inner p a i' (ys.take j') 0 O).getD (i' + j') 0 + a * b) % p) := by
        rw [getElem?_snoc _ _ hd2, inner_snoc, List.length_take, Nat.zero_add, Nat.min_eq_left (by omega)]
      rw [his]
      generalize inner p a i' (ys.take j') 0 O = I at hil2 ⊢
      refine ⟨_, rfl, fun nxt hn => ?_⟩
      and_intros
      rw [← Int.natCast_add, atI_ints _ (by omega)]
      and_intros
      refine ⟨cmul_smallL (by omega) (by omega), by omega, i' + j', ixN_nat (by rw [List.length_map]; omega), rfl, hn _ ⟨some (.fz (.int (j' : Nat))), some (.fz (.int b)), ?_⟩⟩
      unfold nL
      rw [List.map_set]
    · rw [List.length_zipIdx, List.take_length] at hr
      subst hr
      exact hn _ ⟨_, _, _, _, rfl⟩
  · rw [List.length_zipIdx, List.take_length] at hr
    subst hr
    and_intros
    refine ⟨_, _, rfl, .inr rfl, ?_⟩
    unfold mulL at h
    rw [hZ] at h
    exact h
theorem rd_value_of (ds : List D) (Kr : D → Prop) (Kx : String → Prop) (h : S_value_of ds Kr Kx) : W_value_of (startE N_value_of ds) ⟨fun _ => Kr .non, Kr, fun _ => False, fun _ => False, Kx⟩ := by
  obtain ⟨p, xs, x, rfl, hp, h⟩ := h
  unfold W_value_of
  and_intros
  rw [← List.map_reverse]
  refine for_ints _ _ (fun i ρ => ∃ s r4, ρ = [some (.fz (.int p)), some (.fz (nT xs)), some (.fz (.int x)), some (.fz (.int s)), r4] ∧ 0 ≤ s ∧ s < p ∧ s = (xs.reverse.take i).foldl (fun acc a => (acc * x + a) % p) 0) ⟨0, _, rfl, by omega, by omega, rfl⟩ (fun i a ρ hd ⟨s, r4, hr, hs0, hs1, hs⟩ => ?_) (fun ρ ⟨s, r4, hr, hs0, hs1, hs⟩ => ?_)
  · subst hr
    refine ⟨_, rfl, fun nxt hn => ?_⟩
    and_intros
    refine ⟨cmul_smallL (by omega) (by omega), by omega, hn _ ⟨_, _, rfl, Int.emod_nonneg _ (by omega), Int.emod_lt_of_pos _ (by omega), ?_⟩⟩
    rw [getElem?_snoc _ _ hd, List.foldl_append, ← hs]; rfl
  · rw [List.take_length, ev_foldl] at hs
    subst hr
    and_intros
    rw [hs]
    exact h
end LW

set_option Elab.async false
set_option linter.all false
set_option maxRecDepth 100000
set_option maxHeartbeats 4000000
namespace LW
open PySem PySem.Spec PyProof.Rows L2 DL LM
variable [TabsC]
local macro_rules | `(tactic| and_intros) => `(tactic| try simp only [↓hold_ap, ↓cond_t, ↓cond_f, cond_t, cond_f, seqW_a, nextW_a, breakW_a, contW_a, exprW_a, retW_a, retN_a, setK_a, asgW_a, ownW_a, parW_a, ifW_a, forW_a, forRW_a, frzW_a, raiseW_a, appW_a, extW_a, trkW_a, putW_a, retHW_a, varW_a, cstW_a, binW_a, tupW_a, lstW_a, consA_a, nilA_a, callW_a, bltW_a, rng1A_a, rng2A_a, rng3A_a, zipA_a, seqA_a, compW_a, comp2W_a, andV_a, orV_a, notV_a, ifV_a, chainW_a, andT_a, orT_a, notT_a, boolW_a, truthW_a, negW_a, slcW_a, noO_a, someO_a, yesT_a, getW_a, sortIW_a, lamW_a, revW_a, setIW_a, augW_a, popW_a, appPopW_a, parOW_a, parOOW_a, updW_a, dcW_a, enumA_a, lrg1W_a, lrg2W_a, trg1W_a, trg2W_a, par3W_a, lenSetW_a, asgFW_a, setFW_a, swpW_a, cntW_a, eqA, neA, reprW, lenA, fdivA, minLW, maxLW, seqK, boolK, truthK, D.truth, slK, ixW, ixK, ixuW, eqW, neW, addW, subW, mulA, repL, fdivW, modW, powW, intW, ltW, leW, gtW, geW, isNonW, notNonW, inA, reprW, lenW, absW, int1W, max2W_e, min2W_e, tuple1W, list1W, sumW, allW, anyW, isiW, sortedW, ownL, startE, view, SV.view, Tgt.bs, Tgt.bss, setE, frzE, wipeD, D.ty, eqv_int, eqv_bool, cm_int, cm_bool, cm_non, atI_0, atI_1, atI_2, D.isNon, List.map_cons, List.map_nil, List.length_cons, List.length_nil, List.replicate, List.cons_append, List.nil_append, List.getElem?_cons_zero, List.getElem?_cons_succ, List.getElem?_nil, List.set_cons_zero, List.set_cons_succ, List.foldl_cons, List.foldl_nil, Option.map_some, Option.bind_some, reduceCtorEq, if_true, if_false, Bool.false_eq_true, ite_true, ite_false, false_implies, forall_const, true_and, and_true, Nat.reduceSub, Nat.reduceAdd, List.append_nil, sizeLine_eq, Bool.not_true, Bool.not_false, decide_true, decide_false, eq_self, Int.cast_ofNat_Int, Int.natCast_zero, Int.natCast_one, beq_self_eq_true, Option.getD_some, Option.getD_none, kb_NoneType_int, kb_NoneType_str, kb_NoneType_list, kb_NoneType_tuple, kb_NoneType_dict, kb_NoneType_bool, kb_bool_int, kb_bool_str, kb_bool_list, kb_bool_tuple, kb_bool_dict, kb_bool_bool, kb_int_int, kb_int_str, kb_int_list, kb_int_tuple, kb_int_dict, kb_int_bool, kb_str_int, kb_str_str, kb_str_list, kb_str_tuple, kb_str_dict, kb_str_bool, kb_list_int, kb_list_str, kb_list_list, kb_list_tuple, kb_list_dict, kb_list_bool, kb_tuple_int, kb_tuple_str, kb_tuple_list, kb_tuple_tuple, kb_tuple_dict, kb_tuple_bool, kb_dict_int, kb_dict_str, kb_dict_list, kb_dict_tuple, kb_dict_dict, kb_dict_bool])
theorem rd_roots_of (ds : List D) (Kr : D → Prop) (Kx : String → Prop) (h : S_roots_of ds Kr Kx) : W_roots_of (startE N_roots_of ds) ⟨fun _ => Kr .non, Kr, fun _ => False, fun _ => False, Kx⟩ := by
  obtain ⟨p, xs, rfl, hp, h⟩ := h
  unfold W_roots_of
  and_intros
  refine ⟨⟨by omega, by omega⟩, ?_⟩
  rw [rgD_rangeI]
  refine loopC_fm D.int (fun x => ev p xs x == 0) D.int (rangeI p) [] (fun x hx => ⟨_, rfl, fun N M hN => ?_⟩) ?_
  · and_intros
    refine ⟨p, xs, x, rfl, hp, ?_⟩
    and_intros
    exact hN
  · and_intros
    exact h
theorem rd_inverse_of (ds : List D) (Kr : D → Prop) (Kx : String → Prop) (h : S_inverse_of ds Kr Kx) : W_inverse_of (startE N_inverse_of ds) ⟨fun _ => Kr .non, Kr, fun _ => False, fun _ => False, Kx⟩ := by
  obtain ⟨p, x, rfl, hp, h⟩ := h
  unfold W_inverse_of
  and_intros
  exact ⟨p, x, (p - 2).toNat, by rw [Int.toNat_of_nonneg (by omega)], hp, by omega, h⟩
theorem rd_scaled_line (ds : List D) (Kr : D → Prop) (Kx : String → Prop) (h : S_scaled_line ds Kr Kx) : W_scaled_line (startE N_scaled_line ds) ⟨fun _ => Kr .non, Kr, fun _ => False, fun _ => False, Kx⟩ := by
  obtain ⟨p, xs, c, rfl, hp, hc0, hc1, h⟩ := h
  unfold W_scaled_line
  and_intros
  refine loopC_map D.int (fun a => .int (a * c % p)) _ (fun a _ => ⟨_, rfl, fun N hN => ?_⟩) ?_
  · and_intros
    exact ⟨cmul_small (by omega) (by omega), hp, hN⟩
  · and_intros
    refine ⟨_, xs.map fun a => a * c % p, rfl, .inr ?_, h⟩
    unfold nL
    rw [List.map_map]; rfl
theorem rd_line_of_roots (ds : List D) (Kr : D → Prop) (Kx : String → Prop) (h : S_line_of_roots ds Kr Kx) : W_line_of_roots (startE N_line_of_roots ds) ⟨fun _ => Kr .non, Kr, fun _ => False, fun _ => False, Kx⟩ := by
  obtain ⟨p, rs, rfl, hp, hr, hl, h⟩ := h
  have hp2 := prime_P hp
  unfold W_line_of_roots
  and_intros
  refine need_prime_ok hp ?_
  and_intros
  refine cond_is (d := false) (decide_eq_false (by rw [List.length_map]; omega)) ?_
  and_intros
  refine loopC_map D.int (fun d => .bool (btw (.int d) 0 (p - 1))) rs (fun d hd => ⟨_, rfl, fun N hN => ?_⟩) ?_
  · and_intros
    exact ⟨p, _, rfl, rfl, hN⟩
  and_intros
  refine ⟨rs.map fun d => btw (.int d) 0 (p - 1), by rw [List.map_map]; rfl, ?_⟩
  refine cond_is (d := false) (by
    have := (inr_all (p := p) (xs := rs)).mpr hr
    rw [List.all_map] at this
    rw [List.all_map, show (id ∘ fun d => btw (.int d) 0 (p - 1)) = ((fun x => btw x 0 (p - 1)) ∘ D.int) from rfl, this]; rfl) ?_
  and_intros
  refine ⟨by decide, ?_⟩
  refine for_ints D.int rs (fun i ρ => ∃ r3, ρ = [some (.fz (.int p)), some (.fz (nT rs)), some (.fz (nT (rootLine p (rs.take i)))), r3]) ⟨_, rfl⟩ (fun i x ρ hd ⟨r3, hr2⟩ => ?_) (fun ρ ⟨r3, hr2⟩ => ?_)
  · subst hr2
    have hil := lt_of_some hd
    have R := rl_ok (p := p) (by omega) (rs.take i)
    have hlen := R.len
    rw [List.length_take] at hlen
    refine ⟨_, rfl, fun nxt hn => ?_⟩
    and_intros
    refine ⟨by omega, by decide, p, _, [(0 - x) % p, 1], rfl, hp2, R.ok, by omega, by simp, ?_⟩
    rw [← rl_snoc, ← getElem?_snoc _ _ hd]
    and_intros
    exact hn _ ⟨_, rfl⟩
  · rw [List.take_length] at hr2
    subst hr2
    and_intros
    exact h
theorem gcd_pos {t b : Int} (h : 0 < b) : 0 < ((Int.gcd t b : Nat) : Int) := by
  have : Int.gcd t b ≠ 0 := fun e => by have := (Int.gcd_eq_zero_iff.mp e).2; omega
  omega
theorem gcd_le {t b : Int} (h : 0 < b) : ((Int.gcd t b : Nat) : Int) ≤ b := Int.le_of_dvd h (Int.gcd_dvd_right ..)
theorem gcd_mod (x y : Int) : Int.gcd y (x % y) = Int.gcd y x := by
  have := Int.gcd_add_mul_left_right y (x % y) (x / y)
  rw [Int.emod_add_mul_ediv] at this
  exact this.symm
theorem gcd_wide {t b : Int} (h : 0 < b) (w : Wide b) : Wide ((Int.gcd t b : Nat) : Int) := by
  unfold Wide at *
  rw [Int.natAbs_natCast]
  have h1 := gcd_le (t := t) h
  have hg := gcd_pos (t := t) h
  have h2 : Int.gcd t b ≤ b.natAbs := by omega
  have h3 : Int.gcd t b ≠ 0 := by omega
  have h4 : b.natAbs ≠ 0 := by omega
  exact (Nat.log2_lt h3).mpr (Nat.lt_of_le_of_lt h2 ((Nat.log2_lt h4).mp w))
theorem wide_small {b : Int} (h : 0 < b) (h2 : b < 1000000) : Wide b := by
  unfold Wide
  have := (Nat.log2_lt (k := 20) (show b.natAbs ≠ 0 by omega)).mpr (Nat.lt_of_lt_of_le (show b.natAbs < 1000000 by omega) (by decide))
  omega
theorem rd_common (ds : List D) (Kr : D → Prop) (Kx : String → Prop) (h : S_common ds Kr Kx) : W_common (startE N_common ds) ⟨fun _ => Kr .non, Kr, fun _ => False, fun _ => False, Kx⟩ := by
  obtain ⟨a, b, rfl, ha, hb, h⟩ := h
  unfold W_common
  rw [seqW_a]
  unfold whileW
  refine ⟨fun n ρ => ∃ x y : Int, n = y.toNat ∧ ρ = [some (.fz (.int x)), some (.fz (.int y))] ∧ 0 ≤ x ∧ 0 ≤ y ∧ Int.gcd x y = Int.gcd a b, ⟨_, a, b, rfl, rfl, ha, hb, rfl⟩, fun n ρ ⟨x, y, hn, hr, hx, hy, hg⟩ => ?_⟩
  subst hn hr
  and_intros
  by_cases hz : 0 < y
  · rw [if_pos (decide_eq_true hz)]
    refine ⟨hz, _, ?_, y, x % y, rfl, rfl, hy, Int.emod_nonneg _ (by omega), ?_⟩
    · have := Int.emod_lt_of_pos x hz
      have := Int.emod_nonneg x (show y ≠ 0 by omega)
      omega
    · rw [← hg, Int.gcd_comm x y]
      exact gcd_mod x y
  · rw [if_neg (by simpa using hz)]
    have : y = 0 := by omega
    subst this
    have e : (Int.gcd a b : Int) = x := by rw [← hg, Int.gcd_zero_right]; omega
    rw [e] at h
    exact h
theorem rd_fraction (ds : List D) (Kr : D → Prop) (Kx : String → Prop) (h : S_fraction ds Kr Kx) : W_fraction (startE N_fraction ds) ⟨fun _ => Kr .non, Kr, fun _ => False, fun _ => False, Kx⟩ := by
  obtain ⟨t, b, rfl, ht, hb, hw, h⟩ := h
  unfold W_fraction
  and_intros
  refine ⟨t, b, by rw [if_neg (by omega)], ht, by omega, ?_⟩
  and_intros
  have p := gcd_pos (t := t) hb
  have w := gcd_wide (t := t) hb hw
  exact ⟨⟨p, w⟩, ⟨p, w⟩, by decide, h⟩
theorem rd__law_gcd (ds : List D) (Kr : D → Prop) (Kx : String → Prop) (h : S__law_gcd ds Kr Kx) : W__law_gcd (startE N__law_gcd ds) ⟨fun _ => Kr .non, Kr, fun _ => False, fun _ => False, Kx⟩ := by
  obtain ⟨a, b, rfl, ha, hb, hb2, h⟩ := h
  unfold W__law_gcd
  and_intros
  refine ⟨by decide, forL_i (fun i ρ => ρ.length = 3 ∧ ∃ x y : Int, ρ[0]? = some (some (.fz (.int x))) ∧ ρ[1]? = some (some (.fz (.int y))) ∧ 0 ≤ x ∧ 0 ≤ y ∧ Int.gcd x y = Int.gcd a b ∧ (y = 0 ∨ y + i < 19999)) ⟨rfl, a, b, rfl, rfl, ha, hb, rfl, .inr (by omega)⟩ (fun i d ρ hd ⟨hl, x, y, h0, h1, hx, hy, hg, hi⟩ => ?_) (fun ρ ⟨hl, x, y, h0, h1, hx, hy, hg, hi⟩ => ?_)⟩
  · match ρ, hl with
    | [r0, r1, r2], _ =>
      simp at h0 h1
      subst h0 h1
      refine ⟨_, rfl, fun nxt hn => ?_⟩
      and_intros
      by_cases hz : y = 0
      · refine cond_is (d := true) (by simp [hz]) ?_
        and_intros
        subst hz
        have e : (Int.gcd a b : Int) = x := by rw [← hg, Int.gcd_zero_right]; omega
        rw [e] at h
        exact h
      · refine cond_is (d := false) (by simp [hz]) ?_
        and_intros
        have hz' : 0 < y := by omega
        refine ⟨hz', hn _ ⟨rfl, y, x % y, rfl, rfl, hy, Int.emod_nonneg _ hz, ?_, ?_⟩⟩
        · rw [← hg, Int.gcd_comm x y]; exact gcd_mod x y
        · have := Int.emod_lt_of_pos x hz'
          rcases hi with hi | hi
          · exact absurd hi hz
          · right; push_cast; omega
  · rw [rgD_length] at hi
    have hz : y = 0 := by
      rcases hi with hi | hi
      · exact hi
      · have : (Int.toNat 20000 : Int) = 20000 := rfl
        omega
    match ρ, hl with
    | [r0, r1, r2], _ =>
      simp at h0 h1
      subst h0 h1
      and_intros
      subst hz
      have e : (Int.gcd a b : Int) = x := by rw [← hg, Int.gcd_zero_right]; omega
      rw [e] at h
      exact h
theorem rd__law_frac (ds : List D) (Kr : D → Prop) (Kx : String → Prop) (h : S__law_frac ds Kr Kx) : W__law_frac (startE N__law_frac ds) ⟨fun _ => Kr .non, Kr, fun _ => False, fun _ => False, Kx⟩ := by
  obtain ⟨t, b, rfl, ht, hb, hb2, h⟩ := h
  unfold W__law_frac
  and_intros
  refine ⟨t, b, by rw [if_neg (by omega)], ht, by omega, hb2, ?_⟩
  and_intros
  have p := gcd_pos (t := t) hb
  have l := gcd_le (t := t) hb
  exact ⟨⟨p, gcd_wide hb (wide_small hb (by omega))⟩, ⟨p, gcd_wide hb (wide_small hb (by omega))⟩, by decide, h⟩
theorem rd__law_mixed (ds : List D) (Kr : D → Prop) (Kx : String → Prop) (h : S__law_mixed ds Kr Kx) : W__law_mixed (startE N__law_mixed ds) ⟨fun _ => Kr .non, Kr, fun _ => False, fun _ => False, Kx⟩ := by
  obtain ⟨a, c, t, xs, rfl, ht, hl, h⟩ := h
  have go : ∀ t : D, whileW true (boolW (binW gtW (bltW lenW (consA (varW 2) nilA)) (cstW (.int 0)))) (appPopW true 3 2 (callW S__law_draw (consA (varW 0) (consA (bltW lenW (consA (varW 2) nilA)) nilA)))) [some (.fz (.hnd a c)), some (.fz t), some (.own (.list xs)), some (.own (.list []))] ⟨fun ρ => retW (varW 3) ρ ⟨fun _ => Kr .non, Kr, fun _ => False, fun _ => False, Kx⟩, Kr, fun _ => False, fun _ => False, Kx⟩ := by
    intro t
    unfold whileW
    refine ⟨fun n ρ => ∃ l f, ρ = [some (.fz (.hnd a c)), some (.fz t), some (.own (.list l)), some (.own (.list f))] ∧ n = l.length ∧ (f ++ l).Perm xs, ⟨_, xs, [], rfl, rfl, List.Perm.refl _⟩, fun n ρ ⟨l, f, hr, hn, hp⟩ => ?_⟩
    subst hr hn
    have hpl := hp.length_eq
    rw [List.length_append] at hpl
    and_intros
    by_cases hz : 0 < l.length
    · rw [if_pos (decide_eq_true (by omega))]
      refine ⟨a, c, _, rfl, by omega, by omega, fun r r0 r1 => ?_⟩
      and_intros
      have er : r = ((r.toNat : Nat) : Int) := by omega
      have hg : l[r.toNat]? = some (l[r.toNat]'(by omega)) := List.getElem?_eq_getElem (by omega)
      refine ⟨r.toNat, _, ⟨by omega, by omega⟩, ?_, hg, by omega, ?_⟩
      · rw [er, Int.toNat_natCast]
        exact (ixN_seq (ixN_nat (by omega))).1
      · refine ⟨(l.eraseIdx r.toNat).length, by rw [List.length_eraseIdx]; split <;> omega, _, _, rfl, rfl, ?_⟩
        refine List.Perm.trans ?_ hp
        rw [List.append_assoc]
        refine List.Perm.append_left f ?_
        have h2 : l = l.take r.toNat ++ l[r.toNat]'(by omega) :: l.drop (r.toNat + 1) := by
          rw [← List.drop_eq_getElem_cons, List.take_append_drop]
        rw [List.eraseIdx_eq_take_drop_succ]
        conv => rhs; rw [h2]
        rw [List.singleton_append]
        exact List.perm_middle.symm
    · rw [if_neg (by simpa using hz)]
      have : l = [] := List.eq_nil_of_length_eq_zero (by omega)
      subst this
      rw [List.append_nil] at hp
      and_intros
      exact h f hp
  unfold W__law_mixed
  rcases ht with rfl | rfl
  · and_intros
    exact ⟨by decide, go _⟩
  · and_intros
    exact ⟨by decide, go _⟩
theorem rd__law_hand (ds : List D) (Kr : D → Prop) (Kx : String → Prop) (h : S__law_hand ds Kr Kx) : W__law_hand (startE N__law_hand ds) ⟨fun _ => Kr .non, Kr, fun _ => False, fun _ => False, Kx⟩ := by
  obtain ⟨ns, rfl, h⟩ := h
  unfold W__law_hand
  and_intros
  have e : DL.cutD (ns.map D.int) none (some 63) = (ns.take 63).map D.int := by rw [show (63 : Int) = ((63 : Nat) : Int) from rfl, cutD_to, List.map_take]
  rw [e]
  have hl : (ns.take 63).length ≤ 63 := by rw [List.length_take]; omega
  refine loopC_map D.int (fun i => .int (if i < 0 then -i else i)) _ (fun i _ => ⟨_, rfl, fun N hN => ?_⟩) ?_
  · and_intros
    exact hN
  · and_intros
    rw [List.length_map, show ((ns.take 63).map fun i : Int => D.int (if i < 0 then -i else i)) = ((ns.take 63).map fun i => if i < 0 then -i else i).map D.int by rw [List.map_map]; rfl]
    refine ⟨.inl ⟨by decide, by decide⟩, by decide, _, 0, 0, _, 0, rfl, ⟨by rw [List.length_map]; exact hl, fun x hx => ?_, by decide, by decide, by omega, by omega, by decide⟩, h⟩
    obtain ⟨i, _, rfl⟩ := List.mem_map.mp hx
    split <;> omega
end LW

set_option Elab.async false
set_option linter.all false
set_option maxRecDepth 100000
set_option maxHeartbeats 4000000
namespace LW
open PySem PySem.Spec PyProof.Rows L2 DL LM
variable [TabsC]
local macro_rules | `(tactic| and_intros) => `(tactic| try simp only [↓hold_ap, ↓cond_t, ↓cond_f, cond_t, cond_f, seqW_a, nextW_a, breakW_a, contW_a, exprW_a, retW_a, retN_a, setK_a, asgW_a, ownW_a, parW_a, ifW_a, forW_a, forRW_a, frzW_a, raiseW_a, appW_a, extW_a, trkW_a, putW_a, retHW_a, varW_a, cstW_a, binW_a, tupW_a, lstW_a, consA_a, nilA_a, callW_a, bltW_a, rng1A_a, rng2A_a, rng3A_a, zipA_a, seqA_a, compW_a, comp2W_a, andV_a, orV_a, notV_a, ifV_a, chainW_a, andT_a, orT_a, notT_a, boolW_a, truthW_a, negW_a, slcW_a, noO_a, someO_a, yesT_a, getW_a, sortIW_a, lamW_a, revW_a, setIW_a, augW_a, popW_a, appPopW_a, parOW_a, parOOW_a, updW_a, dcW_a, enumA_a, lrg1W_a, lrg2W_a, trg1W_a, trg2W_a, par3W_a, lenSetW_a, asgFW_a, setFW_a, swpW_a, cntW_a, eqA, neA, reprW, lenA, fdivA, minLW, maxLW, seqK, boolK, truthK, D.truth, slK, ixW, ixK, ixuW, eqW, neW, addW, subW, mulA, repL, fdivW, modW, powW, intW, ltW, leW, gtW, geW, isNonW, notNonW, inA, reprW, lenW, absW, int1W, max2W_e, min2W_e, tuple1W, list1W, sumW, allW, anyW, isiW, sortedW, ownL, startE, view, SV.view, Tgt.bs, Tgt.bss, setE, frzE, wipeD, D.ty, eqv_int, eqv_bool, cm_int, cm_bool, cm_non, atI_0, atI_1, atI_2, D.isNon, List.map_cons, List.map_nil, List.length_cons, List.length_nil, List.replicate, List.cons_append, List.nil_append, List.getElem?_cons_zero, List.getElem?_cons_succ, List.getElem?_nil, List.set_cons_zero, List.set_cons_succ, List.foldl_cons, List.foldl_nil, Option.map_some, Option.bind_some, reduceCtorEq, if_true, if_false, Bool.false_eq_true, ite_true, ite_false, false_implies, forall_const, true_and, and_true, Nat.reduceSub, Nat.reduceAdd, List.append_nil, sizeLine_eq, Bool.not_true, Bool.not_false, decide_true, decide_false, eq_self, Int.cast_ofNat_Int, Int.natCast_zero, Int.natCast_one, beq_self_eq_true, Option.getD_some, Option.getD_none, kb_NoneType_int, kb_NoneType_str, kb_NoneType_list, kb_NoneType_tuple, kb_NoneType_dict, kb_NoneType_bool, kb_bool_int, kb_bool_str, kb_bool_list, kb_bool_tuple, kb_bool_dict, kb_bool_bool, kb_int_int, kb_int_str, kb_int_list, kb_int_tuple, kb_int_dict, kb_int_bool, kb_str_int, kb_str_str, kb_str_list, kb_str_tuple, kb_str_dict, kb_str_bool, kb_list_int, kb_list_str, kb_list_list, kb_list_tuple, kb_list_dict, kb_list_bool, kb_tuple_int, kb_tuple_str, kb_tuple_list, kb_tuple_tuple, kb_tuple_dict, kb_tuple_bool, kb_dict_int, kb_dict_str, kb_dict_list, kb_dict_tuple, kb_dict_dict, kb_dict_bool])
theorem rd__law_some (ds : List D) (Kr : D → Prop) (Kx : String → Prop) (h : S__law_some ds Kr Kx) : W__law_some (startE N__law_some ds) ⟨fun _ => Kr .non, Kr, fun _ => False, fun _ => False, Kx⟩ := by
  obtain ⟨a, c, t, xs, rfl, ht, hne, hl, h⟩ := h
  have hp : 0 < xs.length := by cases xs with
    | nil => exact absurd rfl hne
    | cons => simp
  have go : ∀ r : Int, 0 ≤ r → r < (xs.length : Int) → ∃ x, L2.atI xs r = some x ∧ Kr x := fun r h0 h1 => ⟨_, atI_int xs r h0 h1, h _ (List.getElem_mem _)⟩
  unfold W__law_some
  rcases ht with rfl | rfl
  · and_intros
    refine ⟨a, c, _, rfl, by omega, by omega, fun r h0 h1 => ?_⟩
    obtain ⟨x, e, hx⟩ := go r h0 h1
    and_intros
    rw [e]
    exact hx
  · and_intros
    refine ⟨a, c, _, rfl, by omega, by omega, fun r h0 h1 => ?_⟩
    obtain ⟨x, e, hx⟩ := go r h0 h1
    and_intros
    rw [e]
    exact hx
theorem rd__law_numbers (ds : List D) (Kr : D → Prop) (Kx : String → Prop) (h : S__law_numbers ds Kr Kx) : W__law_numbers (startE N__law_numbers ds) ⟨fun _ => Kr .non, Kr, fun _ => False, fun _ => False, Kx⟩ := by
  obtain ⟨a, c, p, n, rfl, hp, hp2, hn, hn2, h⟩ := h
  unfold W__law_numbers
  and_intros
  refine ⟨⟨by omega, by omega⟩, ?_⟩
  rw [rgD_map]
  refine loopC_i (fun i acc => ∃ xs, acc = xs.map D.int ∧ InR p xs ∧ xs.length = i) ⟨[], rfl, (fun a ha => nomatch ha), rfl⟩ (fun i d acc hd ⟨xs, hacc, hx, hl⟩ => ⟨_, rfl, fun N M hN hM => ?_⟩) (fun acc ⟨xs, hacc, hx, hl⟩ => ?_)
  · and_intros
    refine ⟨a, c, p, rfl, hp, hp2, fun r h0 h1 => hN _ ⟨xs ++ [r], by rw [hacc, List.map_append]; rfl, ?_, by rw [List.length_append, hl]; rfl⟩⟩
    exact hx.app fun b hb => by simp at hb; subst hb; exact ⟨h0, h1⟩
  · subst hacc
    rw [List.length_map, List.length_range] at hl
    and_intros
    exact h xs hx (by omega)
theorem rd0__law_kept (ds : List D) (Kr : D → Prop) (Kx : String → Prop) (h : S_keptN 0 ds Kr Kx) : W__law_kept (fun _ _ _ => False) (startE N__law_kept ds) ⟨fun _ => Kr .non, Kr, fun _ => False, fun _ => False, Kx⟩ := by
  obtain ⟨d, rfl, hk, h⟩ := h
  unfold W__law_kept
  rcases hk with (rfl | ⟨b, rfl⟩ | ⟨i, rfl⟩ | ⟨x, rfl, hx⟩)
  · and_intros
    exact ⟨by simp, by simp, h⟩
  · and_intros
    refine ⟨by simp, ?_⟩
    cases b <;> (and_intros; exact h)
  · and_intros
    exact ⟨by simp, h⟩
  · and_intros
    refine ⟨by simp, ⟨cm_str _ hx, cm_str _ hx⟩, ?_⟩
    rw [eqv_str]; simpa using h
theorem rd__law_kept (n : Nat) (ds : List D) (Kr : D → Prop) (Kx : String → Prop) (h : S_keptN (n + 1) ds Kr Kx) : W__law_kept (S_keptN n) (startE N__law_kept ds) ⟨fun _ => Kr .non, Kr, fun _ => False, fun _ => False, Kx⟩ := by
  obtain ⟨d, rfl, hk, h⟩ := h
  unfold W__law_kept
  rcases hk with (rfl | ⟨b, rfl⟩ | ⟨i, rfl⟩ | ⟨x, rfl, hx⟩) | ⟨xs, rfl | rfl, hl, hxs⟩
  · and_intros
    exact ⟨by simp, by simp, h⟩
  · and_intros
    refine ⟨by simp, ?_⟩
    cases b <;> (and_intros; exact h)
  · and_intros
    exact ⟨by simp, h⟩
  · and_intros
    refine ⟨by simp, ⟨cm_str _ hx, cm_str _ hx⟩, ?_⟩
    rw [eqv_str]; simpa using h
  · and_intros
    refine ⟨⟨by omega, by omega⟩, ?_⟩
    rw [Int.toNat_natCast, rgD_map]
    refine loopC_map (fun k : Nat => D.int (k : Nat)) (fun _ => .bool true) (List.range xs.length) (fun k hk => ⟨_, rfl, fun N hN => ?_⟩) ?_
    · have hk := List.mem_range.mp hk
      and_intros
      rw [atI_nat xs k hk]
      and_intros
      exact ⟨_, rfl, hxs _ (List.getElem_mem hk), hN⟩
    · and_intros
      refine ⟨(List.range xs.length).map fun _ => true, by rw [List.map_map]; rfl, ?_⟩
      rw [List.all_map, show ((List.range xs.length).all (id ∘ fun _ => true)) = true from List.all_eq_true.mpr fun _ _ => rfl]
      exact h
  · and_intros
    refine ⟨⟨by omega, by omega⟩, ?_⟩
    rw [Int.toNat_natCast, rgD_map]
    refine loopC_map (fun k : Nat => D.int (k : Nat)) (fun _ => .bool true) (List.range xs.length) (fun k hk => ⟨_, rfl, fun N hN => ?_⟩) ?_
    · have hk := List.mem_range.mp hk
      and_intros
      rw [atI_nat xs k hk]
      and_intros
      exact ⟨_, rfl, hxs _ (List.getElem_mem hk), hN⟩
    · and_intros
      refine ⟨(List.range xs.length).map fun _ => true, by rw [List.map_map]; rfl, ?_⟩
      rw [List.all_map, show ((List.range xs.length).all (id ∘ fun _ => true)) = true from List.all_eq_true.mpr fun _ _ => rfl]
      exact h
theorem kp0 (d : D) (h : KpN 0 d) : ∀ n, KpN n d
  | 0 => h
  | n + 1 => .inl h
theorem kp_int (i : Int) (n : Nat) : KpN n (.int i) := kp0 _ (.inr (.inr (.inl ⟨i, rfl⟩))) n
theorem kp_bool (i : Bool) (n : Nat) : KpN n (.bool i) := kp0 _ (.inr (.inl ⟨i, rfl⟩)) n
theorem kp_tup {n : Nat} {xs : List D} (hl : xs.length ≤ 16777216) (h : ∀ x ∈ xs, KpN n x) : KpN (n + 1) (.tuple xs) := .inr ⟨xs, .inr rfl, hl, h⟩
theorem kp_nT (xs : List Int) (h : xs.length ≤ 16777216) (n : Nat) : KpN (n + 1) (nT xs) := kp_tup (by rw [List.length_map]; exact h) fun x hx => by obtain ⟨i, _, rfl⟩ := List.mem_map.mp hx; exact kp_int i n
theorem kp_non (n : Nat) : KpN n .non := kp0 _ (.inl rfl) n
theorem kp_two {n : Nat} {a b : D} (ha : KpN n a) (hb : KpN n b) : KpN (n + 1) (.tuple [a, b]) := kp_tup (by simp) fun x hx => by
  rcases List.mem_cons.mp hx with rfl | hx
  · exact ha
  · simp at hx; subst hx; exact hb
theorem kp_ps (ps : List (Int × Int)) (h : ps.length ≤ 16777216) (n : Nat) : KpN (n + 2) (psD ps) := kp_tup (by rw [List.length_map]; exact h) fun x hx => by obtain ⟨q, _, rfl⟩ := List.mem_map.mp hx; exact kp_two (kp_int _ _) (kp_int _ _)
theorem kept_go {d : D} {K : D → Prop} {X : String → Prop} (h : KpN 4 d) (k : K (.bool true)) : S__law_kept [d, d] K X := ⟨d, rfl, h, k⟩
end LW

set_option Elab.async false
set_option linter.all false
set_option maxRecDepth 100000
set_option maxHeartbeats 4000000
namespace LW
open PySem PySem.Spec PyProof.Rows L2 DL LM
variable [TabsC]
local macro_rules | `(tactic| symm_saturate) => `(tactic| try simp only [↓hold_ap, ↓cond_t, ↓cond_f, cond_t, cond_f, seqW_a, nextW_a, breakW_a, contW_a, exprW_a, retW_a, retN_a, setK_a, asgW_a, ownW_a, parW_a, ifW_a, forW_a, forRW_a, frzW_a, raiseW_a, appW_a, extW_a, trkW_a, putW_a, retHW_a, varW_a, cstW_a, binW_a, tupW_a, lstW_a, consA_a, nilA_a, callW_a, bltW_a, rng1A_a, rng2A_a, rng3A_a, zipA_a, seqA_a, compW_a, comp2W_a, andV_a, orV_a, notV_a, ifV_a, chainW_a, andT_a, orT_a, notT_a, boolW_a, truthW_a, negW_a, slcW_a, noO_a, someO_a, yesT_a, getW_a, sortIW_a, lamW_a, revW_a, setIW_a, augW_a, popW_a, appPopW_a, parOW_a, parOOW_a, updW_a, dcW_a, enumA_a, lrg1W_a, lrg2W_a, trg1W_a, trg2W_a, par3W_a, lenSetW_a, asgFW_a, setFW_a, swpW_a, cntW_a, eqA, neA, reprW, lenA, fdivA, minLW, maxLW, seqK, boolK, truthK, D.truth, slK, ixW, ixK, ixuW, eqW, neW, addW, subW, mulA, repL, fdivW, modW, powW, intW, ltW, leW, gtW, geW, isNonW, notNonW, inA, reprW, lenW, absW, int1W, max2W_e, min2W_e, tuple1W, list1W, sumW, allW, anyW, isiW, sortedW, ownL, startE, view, SV.view, Tgt.bs, Tgt.bss, setE, frzE, wipeD, D.ty, eqv_int, eqv_bool, cm_int, cm_bool, cm_non, atI_0, atI_1, atI_2, D.isNon, List.map_cons, List.map_nil, List.length_cons, List.length_nil, List.replicate, List.cons_append, List.nil_append, List.getElem?_cons_zero, List.getElem?_cons_succ, List.getElem?_nil, List.set_cons_zero, List.set_cons_succ, List.foldl_cons, List.foldl_nil, Option.map_some, Option.bind_some, reduceCtorEq, if_true, if_false, Bool.false_eq_true, ite_true, ite_false, false_implies, forall_const, true_and, and_true, Nat.reduceSub, Nat.reduceAdd, List.append_nil, sizeLine_eq, Bool.not_true, Bool.not_false, decide_true, decide_false, eq_self, Int.cast_ofNat_Int, Int.natCast_zero, Int.natCast_one, beq_self_eq_true, Option.getD_some, Option.getD_none, kb_NoneType_int, kb_NoneType_str, kb_NoneType_list, kb_NoneType_tuple, kb_NoneType_dict, kb_NoneType_bool, kb_bool_int, kb_bool_str, kb_bool_list, kb_bool_tuple, kb_bool_dict, kb_bool_bool, kb_int_int, kb_int_str, kb_int_list, kb_int_tuple, kb_int_dict, kb_int_bool, kb_str_int, kb_str_str, kb_str_list, kb_str_tuple, kb_str_dict, kb_str_bool, kb_list_int, kb_list_str, kb_list_list, kb_list_tuple, kb_list_dict, kb_list_bool, kb_tuple_int, kb_tuple_str, kb_tuple_list, kb_tuple_tuple, kb_tuple_dict, kb_tuple_bool, kb_dict_int, kb_dict_str, kb_dict_list, kb_dict_tuple, kb_dict_dict, kb_dict_bool, Nat.reduceLeDiff, Nat.zero_le, List.length_map, List.length_range, Int.toNat_natCast])
theorem rd_need_rows_lookups (ds : List D) (Kr : D → Prop) (Kx : String → Prop) (h : S_need_rows_lookups ds Kr Kx) : W_need_rows_lookups (startE N_need_rows_lookups ds) ⟨fun _ => Kr .non, Kr, fun _ => False, fun _ => False, Kx⟩ := by
  obtain ⟨p, row, lot, rfl, hk, h⟩ := h
  unfold W_need_rows_lookups
  symm_saturate
  refine need_prime_ok hk.hp ?_
  symm_saturate
  refine for_ints nT [row, lot] (fun i ρ => ∃ r3 r4 r5, ρ = [some (.fz (.int p)), some (.fz (nT row)), some (.fz (nT lot)), r3, r4, r5]) ⟨_, _, _, rfl⟩ (fun i xs ρ hd ⟨r3, r4, r5, hr⟩ => ?_) (fun ρ ⟨r3, r4, r5, hr⟩ => ?_)
  · subst hr
    have hxs : InR p xs ∧ xs.length ≤ 20 := by
      have := List.mem_of_getElem? hd
      simp only [List.mem_cons, List.not_mem_nil, or_false] at this
      rcases this with rfl | rfl
      · exact ⟨hk.r, hk.rl⟩
      · exact ⟨hk.l, hk.ll⟩
    refine ⟨_, rfl, fun nxt hn => ?_⟩
    symm_saturate
    refine cond_is (d := false) (decide_eq_false (by omega)) ?_
    symm_saturate
    refine loopC_map D.int (fun x => .bool (btw (.int x) 0 (p - 1))) xs (fun x hx => ⟨_, rfl, fun N hN => ?_⟩) ?_
    · symm_saturate
      exact ⟨p, .int x, rfl, rfl, hN⟩
    symm_saturate
    refine ⟨xs.map fun x => btw (.int x) 0 (p - 1), by rw [List.map_map]; rfl, ?_⟩
    rw [all_inr hxs.1]
    symm_saturate
    exact hn _ ⟨_, _, _, rfl⟩
  · subst hr
    symm_saturate
    have hl := hk.ll
    refine ⟨⟨by omega, by omega, by omega, by omega⟩, ?_⟩
    have eR : rgD 1 ((lot.length : Int) - 1).toNat = (List.range (lot.length - 1)).map fun k : Nat => D.int (((k + 1 : Nat) : Int)) := by
      unfold rgD
      rw [show ((lot.length : Int) - 1).toNat = lot.length - 1 by omega]
      refine List.map_congr_left fun k _ => ?_
      rw [show (1 : Int) + (k : Int) = ((k + 1 : Nat) : Int) by omega]
    rw [eR]
    refine loopC_map _ (fun k : Nat => .bool true) _ (fun k hk2 => ⟨_, rfl, fun N hN => ?_⟩) ?_
    · rw [List.mem_range] at hk2
      symm_saturate
      rw [show (((k + 1 : Nat) : Int) - 1) = ((k : Nat) : Int) by omega, atI_ints _ (by omega)]
      symm_saturate
      rw [atI_ints _ (by omega)]
      symm_saturate
      have : lot.getD k 0 < lot.getD (k + 1) 0 := by
        rw [List.getD_eq_getElem?_getD, List.getD_eq_getElem?_getD, List.getElem?_eq_getElem (by omega), List.getElem?_eq_getElem (by omega)]
        exact List.pairwise_iff_getElem.mp hk.asc k (k + 1) (by omega) (by omega) (by omega)
      rw [decide_eq_true this]
      exact hN
    symm_saturate
    refine ⟨(List.range (lot.length - 1)).map fun _ => true, by rw [List.map_map]; rfl, ?_⟩
    rw [all_yes]
    symm_saturate
    exact h
theorem need_lk {p : Int} {row lot : List Int} {K : D → Prop} {X : String → Prop} (hk : Lk p row lot) (k : K .non) : S_need_rows_lookups [.int p, nT row, nT lot] K X := ⟨p, row, lot, rfl, hk, k⟩
theorem rd_strange (ds : List D) (Kr : D → Prop) (Kx : String → Prop) (h : S_strange ds Kr Kx) : W_strange (startE N_strange ds) ⟨fun _ => Kr .non, Kr, fun _ => False, fun _ => False, Kx⟩ := by
  obtain ⟨p, row, lot, rfl, hk, h⟩ := h
  unfold W_strange
  symm_saturate
  refine need_lk hk ?_
  symm_saturate
  rw [enum_ints]
  refine loopC_fm _ (fun q => !decide (q.1 ∈ lot)) (fun q => D.int (q.2 : Nat)) row.zipIdx [] (fun q hq => ⟨_, rfl, fun N M hN => ?_⟩) ?_
  · symm_saturate
    rw [any_mem]
    refine ⟨cm_nT lot, ?_⟩
    exact hN
  · symm_saturate
    unfold strangeL nT at h
    rw [List.map_map] at h
    exact h
theorem rd_tally (ds : List D) (Kr : D → Prop) (Kx : String → Prop) (h : S_tally ds Kr Kx) : W_tally (startE N_tally ds) ⟨fun _ => Kr .non, Kr, fun _ => False, fun _ => False, Kx⟩ := by
  obtain ⟨p, row, lot, rfl, hk, h⟩ := h
  unfold W_tally
  symm_saturate
  refine need_lk hk ?_
  symm_saturate
  refine loopC_map D.int (fun l => D.int ((row.count l : Nat) : Int)) lot (fun l hl => ⟨_, rfl, fun N hN => ?_⟩) ?_
  · symm_saturate
    refine ⟨cm_nT row, ?_⟩
    have e : ((row.map D.int).countP fun z => z.eqv (.int l)) = row.count l := by
      rw [List.countP_map, List.count]
      congr 1
    rw [e]
    exact hN
  symm_saturate
  unfold tallyL nT at h
  rw [List.map_map] at h
  exact h
theorem rd_need_counts (ds : List D) (Kr : D → Prop) (Kx : String → Prop) (h : S_need_counts ds Kr Kx) : W_need_counts (startE N_need_counts ds) ⟨fun _ => Kr .non, Kr, fun _ => False, fun _ => False, Kx⟩ := by
  obtain ⟨p, row, lot, counts, rfl, hk, h⟩ := h
  unfold W_need_counts
  symm_saturate
  refine need_lk hk.lk ?_
  symm_saturate
  refine cond_is (d := false) (by rw [hk.len]; simp) ?_
  symm_saturate
  refine loopC_map D.int (fun x => .bool (btw (.int x) 0 (p - 1))) counts (fun x hx => ⟨_, rfl, fun N hN => ?_⟩) ?_
  · symm_saturate
    exact ⟨p, .int x, rfl, rfl, hN⟩
  symm_saturate
  refine ⟨counts.map fun x => btw (.int x) 0 (p - 1), by rw [List.map_map]; rfl, ?_⟩
  rw [all_inr hk.c]
  symm_saturate
  exact h
theorem need_ct {p : Int} {row lot counts : List Int} {K : D → Prop} {X : String → Prop} (hk : Ct p row lot counts) (k : K .non) : S_need_counts [.int p, nT row, nT lot, nT counts] K X := ⟨p, row, lot, counts, rfl, hk, k⟩
theorem canAsk_cases (row lot : List Int) (x : Int) : (decide (x ∈ row) = true ∧ canAsk row lot x = false) ∨ (decide (x ∈ row) = false ∧ decide (x ∈ lot) = true ∧ canAsk row lot x = false) ∨ (decide (x ∈ row) = false ∧ decide (x ∈ lot) = false ∧ canAsk row lot x = true) := by
  unfold canAsk
  cases decide (x ∈ row) <;> cases decide (x ∈ lot) <;> simp
theorem rd_sums_at (ds : List D) (Kr : D → Prop) (Kx : String → Prop) (h : S_sums_at ds Kr Kx) : W_sums_at (startE N_sums_at ds) ⟨fun _ => Kr .non, Kr, fun _ => False, fun _ => False, Kx⟩ := by
  obtain ⟨p, row, lot, counts, x, rfl, hk, x0, x1, h⟩ := h
  have hp2 := prime_P hk.lk.hp
  unfold W_sums_at
  rw [seqW_s]
  symm_saturate
  rw [any_mem]
  refine ⟨cm_nT row, ?_⟩
  rcases canAsk_cases row lot x with ⟨e1, e⟩ | ⟨e1, e2, e⟩ | ⟨e1, e2, e⟩
  · rw [e1]
    rw [e] at h
    symm_saturate
    simpa using h
  · rw [e1]
    rw [e] at h
    symm_saturate
    rw [any_mem, e2]
    refine ⟨cm_nT lot, ?_⟩
    symm_saturate
    simpa using h
  · rw [e1]
    rw [e, if_pos rfl] at h
    symm_saturate
    rw [any_mem, e2]
    refine ⟨cm_nT lot, ?_⟩
    (symm_saturate; (try simp only [hold_ap, hold2_ap]); (try rw [seqW_s]); symm_saturate)
    refine loopC_map D.int (fun r => D.int (invS p ((x - r) % p))) row (fun r hr => ⟨_, rfl, fun N hN => ?_⟩) ?_
    · symm_saturate
      exact ⟨by omega, p, _, rfl, hp2, hN⟩
    symm_saturate
    refine ⟨row.map fun r => invS p ((x - r) % p), by rw [List.map_map]; rfl, ?_⟩
    symm_saturate
    refine ⟨by omega, ?_⟩
    (symm_saturate; (try simp only [hold_ap, hold2_ap]); (try rw [seqW_s]); symm_saturate)
    rw [zipD_map]
    refine loopC_map _ (fun q => D.int (q.2 * invS p ((x - q.1) % p))) (lot.zip counts) (fun q hq => ⟨_, rfl, fun N hN => ?_⟩) ?_
    · symm_saturate
      refine ⟨by omega, p, _, rfl, hp2, ?_⟩
      symm_saturate
      have hc := hk.c _ (List.of_mem_zip hq).2
      exact ⟨cmul_smallL (by omega) (by omega), hN⟩
    symm_saturate
    refine ⟨(lot.zip counts).map fun q => q.2 * invS p ((x - q.1) % p), by rw [List.map_map]; rfl, ?_⟩
    symm_saturate
    refine ⟨by omega, ?_⟩
    symm_saturate
    try simp only [hold_ap, hold2_ap]
    symm_saturate
    exact h
theorem rd_check_at (ds : List D) (Kr : D → Prop) (Kx : String → Prop) (h : S_check_at ds Kr Kx) : W_check_at (startE N_check_at ds) ⟨fun _ => Kr .non, Kr, fun _ => False, fun _ => False, Kx⟩ := by
  obtain ⟨p, row, lot, counts, x, rfl, hk, x0, x1, h⟩ := h
  unfold W_check_at
  symm_saturate
  refine need_ct hk ?_
  symm_saturate
  refine ⟨p, .int x, rfl, rfl, ?_⟩
  rw [btw_iff.mpr ⟨x0, by omega⟩]
  symm_saturate
  refine ⟨p, row, lot, counts, x, rfl, hk, x0, x1, ?_⟩
  cases e : canAsk row lot x with
  | false => rw [e] at h; symm_saturate; simpa using h
  | true =>
    rw [e, if_pos rfl] at h
    rw [if_pos rfl]
    symm_saturate
    exact ⟨by simp, h⟩
end LW

set_option Elab.async false
set_option linter.all false
set_option maxRecDepth 100000
set_option maxHeartbeats 4000000
namespace LW
open PySem PySem.Spec PyProof.Rows L2 DL LM
variable [TabsC]
local macro_rules | `(tactic| and_intros) => `(tactic| try simp only [↓hold_ap, ↓cond_t, ↓cond_f, cond_t, cond_f, seqW_a, nextW_a, breakW_a, contW_a, exprW_a, retW_a, retN_a, setK_a, asgW_a, ownW_a, parW_a, ifW_a, forW_a, forRW_a, frzW_a, raiseW_a, appW_a, extW_a, trkW_a, putW_a, retHW_a, varW_a, cstW_a, binW_a, tupW_a, lstW_a, consA_a, nilA_a, callW_a, bltW_a, rng1A_a, rng2A_a, rng3A_a, zipA_a, seqA_a, compW_a, comp2W_a, andV_a, orV_a, notV_a, ifV_a, chainW_a, andT_a, orT_a, notT_a, boolW_a, truthW_a, negW_a, slcW_a, noO_a, someO_a, yesT_a, getW_a, sortIW_a, lamW_a, revW_a, setIW_a, augW_a, popW_a, appPopW_a, parOW_a, parOOW_a, updW_a, dcW_a, enumA_a, lrg1W_a, lrg2W_a, trg1W_a, trg2W_a, par3W_a, lenSetW_a, asgFW_a, setFW_a, swpW_a, cntW_a, eqA, neA, reprW, lenA, fdivA, minLW, maxLW, seqK, boolK, truthK, D.truth, slK, ixW, ixK, ixuW, eqW, neW, addW, subW, mulA, repL, fdivW, modW, powW, intW, ltW, leW, gtW, geW, isNonW, notNonW, inA, reprW, lenW, absW, int1W, max2W_e, min2W_e, tuple1W, list1W, sumW, allW, anyW, isiW, sortedW, ownL, startE, view, SV.view, Tgt.bs, Tgt.bss, setE, frzE, wipeD, D.ty, eqv_int, eqv_bool, cm_int, cm_bool, cm_non, atI_0, atI_1, atI_2, D.isNon, List.map_cons, List.map_nil, List.length_cons, List.length_nil, List.replicate, List.cons_append, List.nil_append, List.getElem?_cons_zero, List.getElem?_cons_succ, List.getElem?_nil, List.set_cons_zero, List.set_cons_succ, List.foldl_cons, List.foldl_nil, Option.map_some, Option.bind_some, reduceCtorEq, if_true, if_false, Bool.false_eq_true, ite_true, ite_false, false_implies, forall_const, true_and, and_true, Nat.reduceSub, Nat.reduceAdd, List.append_nil, sizeLine_eq, Bool.not_true, Bool.not_false, decide_true, decide_false, eq_self, Int.cast_ofNat_Int, Int.natCast_zero, Int.natCast_one, beq_self_eq_true, Option.getD_some, Option.getD_none, kb_NoneType_int, kb_NoneType_str, kb_NoneType_list, kb_NoneType_tuple, kb_NoneType_dict, kb_NoneType_bool, kb_bool_int, kb_bool_str, kb_bool_list, kb_bool_tuple, kb_bool_dict, kb_bool_bool, kb_int_int, kb_int_str, kb_int_list, kb_int_tuple, kb_int_dict, kb_int_bool, kb_str_int, kb_str_str, kb_str_list, kb_str_tuple, kb_str_dict, kb_str_bool, kb_list_int, kb_list_str, kb_list_list, kb_list_tuple, kb_list_dict, kb_list_bool, kb_tuple_int, kb_tuple_str, kb_tuple_list, kb_tuple_tuple, kb_tuple_dict, kb_tuple_bool, kb_dict_int, kb_dict_str, kb_dict_list, kb_dict_tuple, kb_dict_dict, kb_dict_bool])
local macro_rules | `(tactic| symm_saturate) => `(tactic| try simp only [↓hold_ap, ↓cond_t, ↓cond_f, cond_t, cond_f, seqW_a, nextW_a, breakW_a, contW_a, exprW_a, retW_a, retN_a, setK_a, asgW_a, ownW_a, parW_a, ifW_a, forW_a, forRW_a, frzW_a, raiseW_a, appW_a, extW_a, trkW_a, putW_a, retHW_a, varW_a, cstW_a, binW_a, tupW_a, lstW_a, consA_a, nilA_a, callW_a, bltW_a, rng1A_a, rng2A_a, rng3A_a, zipA_a, seqA_a, compW_a, comp2W_a, andV_a, orV_a, notV_a, ifV_a, chainW_a, andT_a, orT_a, notT_a, boolW_a, truthW_a, negW_a, slcW_a, noO_a, someO_a, yesT_a, getW_a, sortIW_a, lamW_a, revW_a, setIW_a, augW_a, popW_a, appPopW_a, parOW_a, parOOW_a, updW_a, dcW_a, enumA_a, lrg1W_a, lrg2W_a, trg1W_a, trg2W_a, par3W_a, lenSetW_a, asgFW_a, setFW_a, swpW_a, cntW_a, eqA, neA, reprW, lenA, fdivA, minLW, maxLW, seqK, boolK, truthK, D.truth, slK, ixW, ixK, ixuW, eqW, neW, addW, subW, mulA, repL, fdivW, modW, powW, intW, ltW, leW, gtW, geW, isNonW, notNonW, inA, reprW, lenW, absW, int1W, max2W_e, min2W_e, tuple1W, list1W, sumW, allW, anyW, isiW, sortedW, ownL, startE, view, SV.view, Tgt.bs, Tgt.bss, setE, frzE, wipeD, D.ty, eqv_int, eqv_bool, cm_int, cm_bool, cm_non, atI_0, atI_1, atI_2, D.isNon, List.map_cons, List.map_nil, List.length_cons, List.length_nil, List.replicate, List.cons_append, List.nil_append, List.getElem?_cons_zero, List.getElem?_cons_succ, List.getElem?_nil, List.set_cons_zero, List.set_cons_succ, List.foldl_cons, List.foldl_nil, Option.map_some, Option.bind_some, reduceCtorEq, if_true, if_false, Bool.false_eq_true, ite_true, ite_false, false_implies, forall_const, true_and, and_true, Nat.reduceSub, Nat.reduceAdd, List.append_nil, sizeLine_eq, Bool.not_true, Bool.not_false, decide_true, decide_false, eq_self, Int.cast_ofNat_Int, Int.natCast_zero, Int.natCast_one, beq_self_eq_true, Option.getD_some, Option.getD_none, kb_NoneType_int, kb_NoneType_str, kb_NoneType_list, kb_NoneType_tuple, kb_NoneType_dict, kb_NoneType_bool, kb_bool_int, kb_bool_str, kb_bool_list, kb_bool_tuple, kb_bool_dict, kb_bool_bool, kb_int_int, kb_int_str, kb_int_list, kb_int_tuple, kb_int_dict, kb_int_bool, kb_str_int, kb_str_str, kb_str_list, kb_str_tuple, kb_str_dict, kb_str_bool, kb_list_int, kb_list_str, kb_list_list, kb_list_tuple, kb_list_dict, kb_list_bool, kb_tuple_int, kb_tuple_str, kb_tuple_list, kb_tuple_tuple, kb_tuple_dict, kb_tuple_bool, kb_dict_int, kb_dict_str, kb_dict_list, kb_dict_tuple, kb_dict_dict, kb_dict_bool, Nat.reduceLeDiff, Nat.zero_le, List.length_map, List.length_range, Int.toNat_natCast])
theorem rd_passing (ds : List D) (Kr : D → Prop) (Kx : String → Prop) (h : S_passing ds Kr Kx) : W_passing (startE N_passing ds) ⟨fun _ => Kr .non, Kr, fun _ => False, fun _ => False, Kx⟩ := by
  obtain ⟨p, row, lot, counts, rfl, hk, h⟩ := h
  have hp2 := prime_P hk.lk.hp
  unfold W_passing
  symm_saturate
  refine need_ct hk ?_
  symm_saturate
  refine ⟨⟨by omega, by omega⟩, ?_⟩
  rw [rgD_rangeI]
  refine for_ints D.int (rangeI p) (fun i ρ => ∃ r5 r6, ρ = [some (.fz (.int p)), some (.fz (nT row)), some (.fz (nT lot)), some (.fz (nT counts)), some (.own (nL (((rangeI p).take i).filter fun x => canAsk row lot x && agree p row lot counts x))), r5, r6]) ⟨_, _, rfl⟩ (fun i x ρ hd ⟨r5, r6, hr⟩ => ?_) (fun ρ ⟨r5, r6, hr⟩ => ?_)
  · subst hr
    have hx := mem_rangeI.mp (List.mem_of_getElem? hd)
    have hsz : (((rangeI p).take i).filter fun x => canAsk row lot x && agree p row lot counts x).length ≤ 97 := by
      refine Nat.le_trans (List.length_filter_le _ _) ?_
      rw [List.length_take, rangeI_len]; omega
    refine ⟨_, rfl, fun nxt hn => ?_⟩
    symm_saturate
    refine ⟨p, row, lot, counts, x, rfl, hk, hx.1, hx.2, ?_⟩
    have yes : (canAsk row lot x && agree p row lot counts x) = true → nL (((rangeI p).take (i + 1)).filter fun x => canAsk row lot x && agree p row lot counts x) = .list ((((rangeI p).take i).filter fun x => canAsk row lot x && agree p row lot counts x).map D.int ++ [.int x]) := fun e => by
      unfold nL; rw [filter_snoc_t _ hd e, List.map_append]; rfl
    have no : (canAsk row lot x && agree p row lot counts x) = false → nL (((rangeI p).take (i + 1)).filter fun x => canAsk row lot x && agree p row lot counts x) = nL (((rangeI p).take i).filter fun x => canAsk row lot x && agree p row lot counts x) := fun e => by
      rw [filter_snoc_f _ hd e]
    cases e : canAsk row lot x with
    | false =>
      rw [e] at no
      rw [no rfl] at hn
      rw [if_neg (by simp)]
      symm_saturate
      refine ⟨by simp, ?_⟩
      symm_saturate
      exact hn _ ⟨_, _, rfl⟩
    | true =>
      rw [e, Bool.true_and] at no yes
      rw [if_pos rfl]
      symm_saturate
      refine ⟨by simp, ?_⟩
      symm_saturate
      rw [show (mineS p row x % p == theirS p lot counts x % p) = agree p row lot counts x from rfl]
      cases e2 : agree p row lot counts x with
      | false =>
        rw [no e2] at hn
        symm_saturate
        exact hn _ ⟨_, _, rfl⟩
      | true =>
        rw [yes e2] at hn
        symm_saturate
        exact ⟨by omega, hn _ ⟨_, _, rfl⟩⟩
  · rw [List.take_length] at hr
    subst hr
    symm_saturate
    exact h
theorem ask_test (row lot : List Int) (x : Int) : (!decide (x ∈ row) && !decide (x ∈ lot)) = canAsk row lot x := rfl
theorem rd_passing_share (ds : List D) (Kr : D → Prop) (Kx : String → Prop) (h : S_passing_share ds Kr Kx) : W_passing_share (startE N_passing_share ds) ⟨fun _ => Kr .non, Kr, fun _ => False, fun _ => False, Kx⟩ := by
  obtain ⟨p, row, lot, counts, rfl, hk, h⟩ := h
  have hp2 := prime_P hk.lk.hp
  unfold W_passing_share
  rw [seqW_s]
  symm_saturate
  refine ⟨p, row, lot, counts, rfl, hk, ?_⟩
  (symm_saturate; (try simp only [hold_ap, hold2_ap]); (try rw [seqW_s]); symm_saturate)
  refine ⟨⟨by omega, by omega⟩, ?_⟩
  rw [rgD_rangeI]
  refine loopC_fm D.int (canAsk row lot) D.int (rangeI p) [] (fun x hx => ⟨_, rfl, fun N M hN => ?_⟩) ?_
  · symm_saturate
    rw [any_mem]
    refine ⟨cm_nT row, ?_⟩
    unfold canAsk at hN
    cases h1 : decide (x ∈ row) with
    | true => rw [h1] at hN; symm_saturate; simpa using hN
    | false =>
      rw [h1] at hN
      symm_saturate
      rw [any_mem]
      exact ⟨cm_nT lot, by simpa using hN⟩
  symm_saturate
  try simp only [hold_ap, hold2_ap]
  symm_saturate
  rw [show (rangeI p).filter (canAsk row lot) = askedL p row lot from rfl]
  have hal : (askedL p row lot).length ≤ 97 := by
    refine Nat.le_trans (List.length_filter_le _ _) ?_
    rw [rangeI_len]; omega
  unfold shareD at h
  by_cases ha : askedL p row lot = []
  · rw [if_pos ha] at h
    refine cond_is (d := true) (by rw [ha]; rfl) ?_
    symm_saturate
    exact h
  · rw [if_neg ha] at h
    have hpos := List.length_pos_iff.mpr ha
    refine cond_is (d := false) (by simp; omega) ?_
    symm_saturate
    exact ⟨_, _, rfl, by omega, by omega, wide_small (by omega) (by omega), h⟩
theorem rd_sum_line (ds : List D) (Kr : D → Prop) (Kx : String → Prop) (h : S_sum_line ds Kr Kx) : W_sum_line (startE N_sum_line ds) ⟨fun _ => Kr .non, Kr, fun _ => False, fun _ => False, Kx⟩ := by
  obtain ⟨p, cs, rs, rfl, hp, hc, hr, hl, h20, h⟩ := h
  have hp2 := prime_P hp
  unfold W_sum_line
  symm_saturate
  rw [enum_ints]
  refine for_ints (fun q : Int × Nat => D.lt [.int (q.2 : Nat), .int q.1]) cs.zipIdx (fun i ρ => ∃ r4 r5, ρ = [some (.fz (.int p)), some (.fz (nT cs)), some (.fz (nT rs)), some (.fz (nT ((cs.zipIdx.take i).foldl (fun f q => plusL p f (scaleL p (rootLine p (rs.eraseIdx q.2)) q.1)) []))), r4, r5] ∧ ((cs.zipIdx.take i).foldl (fun f q => plusL p f (scaleL p (rootLine p (rs.eraseIdx q.2)) q.1)) []).length ≤ rs.length) ⟨_, _, rfl, Nat.zero_le _⟩ (fun i q ρ hd ⟨r4, r5, hr2, hfl⟩ => ?_) (fun ρ ⟨r4, r5, hr2, hfl⟩ => ?_)
  · subst hr2
    obtain ⟨hd2, e⟩ := zipIdx_some hd
    obtain ⟨c, i'⟩ := q
    dsimp only at hd2 e
    subst e
    have hil := lt_of_some hd2
    have hcr := hc c (List.mem_of_getElem? hd2)
    have es : (cs.zipIdx.take (i' + 1)).foldl (fun f q => plusL p f (scaleL p (rootLine p (rs.eraseIdx q.2)) q.1)) [] = plusL p ((cs.zipIdx.take i').foldl (fun f q => plusL p f (scaleL p (rootLine p (rs.eraseIdx q.2)) q.1)) []) (scaleL p (rootLine p (rs.eraseIdx i')) c) := by
      rw [getElem?_snoc _ _ hd, List.foldl_append]; rfl
    rw [es]
    generalize (cs.zipIdx.take i').foldl (fun f q => plusL p f (scaleL p (rootLine p (rs.eraseIdx q.2)) q.1)) [] = f at hfl ⊢
    have hel : (rs.eraseIdx i').length = rs.length - 1 := by rw [List.length_eraseIdx, if_pos (by omega)]
    have hpl := plus_len p f (scaleL p (rootLine p (rs.eraseIdx i')) c)
    have hsl := scale_len p (rootLine p (rs.eraseIdx i')) c
    have hrl := rl_len (p := p) (by omega) (rs.eraseIdx i')
    refine ⟨_, rfl, fun nxt hn => ?_⟩
    symm_saturate
    rw [show ((i' : Int) + 1) = ((i' + 1 : Nat) : Int) by omega, cutD_to, cutD_from, ← List.map_take, ← List.map_drop, ← List.map_append, ← List.eraseIdx_eq_take_drop_succ]
    refine ⟨by rw [List.length_map, List.length_map, List.length_take, List.length_drop]; omega, p, rs.eraseIdx i', rfl, hp, fun a ha => hr a (List.mem_of_mem_eraseIdx ha), by omega, ?_⟩
    symm_saturate
    refine ⟨p, _, c, rfl, by omega, by omega, by omega, ?_⟩
    symm_saturate
    refine ⟨p, f, _, rfl, by omega, by omega, by omega, ?_⟩
    symm_saturate
    exact hn _ ⟨_, _, rfl, by omega⟩
  · rw [List.take_length] at hr2
    subst hr2
    symm_saturate
    exact h
theorem rd_lack_line (ds : List D) (Kr : D → Prop) (Kx : String → Prop) (h : S_lack_line ds Kr Kx) : W_lack_line (startE N_lack_line ds) ⟨fun _ => Kr .non, Kr, fun _ => False, fun _ => False, Kx⟩ := by
  obtain ⟨p, row, lot, counts, rfl, hk, h⟩ := h
  have hp := hk.lk.hp
  have hp2 := prime_P hp
  have h1 := hk.lk.rl
  have h2 := hk.lk.ll
  have a1 := sum_len (p := p) (by omega) (cs := ones row.length) (rs := row) (by unfold ones; rw [List.length_replicate])
  have a2 := sum_len (p := p) (by omega) hk.len
  have b1 := mul_len p (sumL p (ones row.length) row) (rootLine p lot)
  have b2 := mul_len p (sumL p counts lot) (rootLine p row)
  have c1 := scale_len p (mulL p (sumL p counts lot) (rootLine p row)) (p - 1)
  have l1 := rl_len (p := p) (by omega) lot
  have l2 := rl_len (p := p) (by omega) row
  unfold W_lack_line
  symm_saturate
  refine need_ct hk ?_
  symm_saturate
  rw [rep_unit, Int.toNat_natCast]
  refine ⟨⟨by omega, by omega⟩, p, ones row.length, row, by unfold ones nT; rw [List.map_replicate], hp, fun a ha => by rw [List.eq_of_mem_replicate ha]; omega, hk.lk.r, by unfold ones; rw [List.length_replicate], h1, ?_⟩
  symm_saturate
  refine ⟨p, lot, rfl, hp, hk.lk.l, by omega, ?_⟩
  symm_saturate
  refine ⟨p, _, _, rfl, hp2, sum_inr (by omega) _ _, by omega, by omega, ?_⟩
  symm_saturate
  refine ⟨p, counts, lot, rfl, hp, hk.c, hk.lk.l, hk.len, h2, ?_⟩
  symm_saturate
  refine ⟨p, row, rfl, hp, hk.lk.r, by omega, ?_⟩
  symm_saturate
  refine ⟨p, _, _, rfl, hp2, sum_inr (by omega) _ _, by omega, by omega, ?_⟩
  symm_saturate
  refine ⟨p, _, p - 1, rfl, by omega, by omega, by omega, ?_⟩
  symm_saturate
  exact ⟨p, _, _, rfl, by omega, by omega, by omega, h⟩
theorem rd_is_looked_up (ds : List D) (Kr : D → Prop) (Kx : String → Prop) (h : S_is_looked_up ds Kr Kx) : W_is_looked_up (startE N_is_looked_up ds) ⟨fun _ => Kr .non, Kr, fun _ => False, fun _ => False, Kx⟩ := by
  obtain ⟨p, row, lot, counts, rfl, hk, h⟩ := h
  unfold W_is_looked_up
  symm_saturate
  refine ⟨p, row, lot, counts, rfl, hk, ?_⟩
  symm_saturate
  have e : (((lackL p row lot counts).length : Int) == 0) = decide (lackL p row lot counts = []) := by
    cases lackL p row lot counts with
    | nil => rfl
    | cons a l => simp; omega
  rw [e]
  exact h
theorem rd_false_passes (ds : List D) (Kr : D → Prop) (Kx : String → Prop) (h : S_false_passes ds Kr Kx) : W_false_passes (startE N_false_passes ds) ⟨fun _ => Kr .non, Kr, fun _ => False, fun _ => False, Kx⟩ := by
  obtain ⟨p, row, lot, counts, rfl, hk, h⟩ := h
  have hp2 := prime_P hk.lk.hp
  unfold W_false_passes
  symm_saturate
  refine ⟨p, row, lot, counts, rfl, hk, ?_⟩
  symm_saturate
  unfold falseL at h
  by_cases e : lackL p row lot counts = []
  · rw [if_pos e] at h
    refine cond_is (d := true) (by rw [e]; rfl) ?_
    symm_saturate
    exact h
  · rw [if_neg e] at h
    have hpos := List.length_pos_iff.mpr e
    refine cond_is (d := false) (by simp; omega) ?_
    symm_saturate
    refine ⟨p, _, rfl, hp2, ?_⟩
    symm_saturate
    refine loopC_fm D.int (canAsk row lot) D.int _ [] (fun x hx => ⟨_, rfl, fun N M hN => ?_⟩) ?_
    · symm_saturate
      rw [any_mem]
      refine ⟨cm_nT row, ?_⟩
      unfold canAsk at hN
      cases h1 : decide (x ∈ row) with
      | true => rw [h1] at hN; symm_saturate; simpa using hN
      | false =>
        rw [h1] at hN
        symm_saturate
        rw [any_mem]
        exact ⟨cm_nT lot, by simpa using hN⟩
    symm_saturate
    exact h
theorem rd_most_false (ds : List D) (Kr : D → Prop) (Kx : String → Prop) (h : S_most_false ds Kr Kx) : W_most_false (startE N_most_false ds) ⟨fun _ => Kr .non, Kr, fun _ => False, fun _ => False, Kx⟩ := by
  obtain ⟨p, row, lot, rfl, hk, h⟩ := h
  unfold W_most_false
  symm_saturate
  refine need_lk hk ?_
  symm_saturate
  intro M hM
  subst hM
  exact h
theorem rd_is_numbers (ds : List D) (Kr : D → Prop) (Kx : String → Prop) (h : S_is_numbers ds Kr Kx) : W_is_numbers (startE N_is_numbers ds) ⟨fun _ => Kr .non, Kr, fun _ => False, fun _ => False, Kx⟩ := by
  obtain ⟨p, d, rfl, hd, h⟩ := h
  unfold W_is_numbers
  cases d with
  | tuple xs =>
    and_intros
    rw [D.pd] at hd
    have e : isNums p (.tuple xs) = (decide (xs.length ≤ 20) && (xs.all fun x => btw x 0 (p - 1))) := rfl
    rw [e] at h
    by_cases hl : xs.length ≤ 20
    · rw [decide_eq_true hl, Bool.true_and] at h
      refine cond_is (d := true) (decide_eq_true (by omega)) ?_
      and_intros
      refine loopC_fm (fun d => d) (fun _ => true) (fun d => .bool (btw d 0 (p - 1))) xs [] (fun d hd2 => ⟨_, rfl, fun N M hN => ?_⟩) ?_ |> fun z => by rw [List.map_id'] at z; exact z
      · and_intros
        rw [if_pos rfl] at hN
        exact ⟨p, d, rfl, pds_mem hd d hd2, hN⟩
      · rw [List.filter_eq_self.mpr fun _ _ => rfl, List.nil_append]
        and_intros
        refine ⟨xs.map fun d => btw d 0 (p - 1), by rw [List.map_map]; rfl, ?_⟩
        rw [List.all_map, show (id ∘ fun d => btw d 0 (p - 1)) = fun d => btw d 0 (p - 1) from rfl]
        exact h
    · rw [decide_eq_false hl, Bool.false_and] at h
      refine cond_is (d := false) (decide_eq_false (by omega)) ?_
      and_intros
      exact h
  | _ => first | (simp [D.pd] at hd; done) | (and_intros; exact h)
theorem isNums_ok {p : Int} {xs : List Int} (h : InR p xs) (hl : xs.length ≤ 20) : isNums p (nT xs) = true := by
  show (decide ((xs.map D.int).length ≤ 20) && ((xs.map D.int).all fun x => btw x 0 (p - 1))) = true
  rw [List.length_map, decide_eq_true hl, inr_all.mpr h]; rfl
theorem rd_need_rows_checklots (ds : List D) (Kr : D → Prop) (Kx : String → Prop) (h : S_need_rows_checklots ds Kr Kx) : W_need_rows_checklots (startE N_need_rows_checklots ds) ⟨fun _ => Kr .non, Kr, fun _ => False, fun _ => False, Kx⟩ := by
  obtain ⟨p, a, b, rfl, hk, h⟩ := h
  unfold W_need_rows_checklots
  symm_saturate
  refine need_prime_ok hk.hp ?_
  symm_saturate
  refine ⟨p, _, rfl, nT_pd a, ?_⟩
  rw [isNums_ok hk.ia hk.la]
  symm_saturate
  refine ⟨p, _, rfl, nT_pd b, ?_⟩
  rw [isNums_ok hk.ib (by have := hk.la; have := hk.lb; omega)]
  symm_saturate
  refine cond_is (d := false) (by rw [hk.lb]; simp) ?_
  symm_saturate
  exact h
theorem need_two {p : Int} {a b : List Int} {K : D → Prop} {X : String → Prop} (hk : Two p a b) (k : K .non) : S_need_rows_checklots [.int p, nT a, nT b] K X := ⟨p, a, b, rfl, hk, k⟩
theorem rd_product_at (ds : List D) (Kr : D → Prop) (Kx : String → Prop) (h : S_product_at ds Kr Kx) : W_product_at (startE N_product_at ds) ⟨fun _ => Kr .non, Kr, fun _ => False, fun _ => False, Kx⟩ := by
  obtain ⟨p, row, x, rfl, hp2, hr, x0, x1, h⟩ := h
  unfold W_product_at
  symm_saturate
  refine for_ints D.int row (fun i ρ => ∃ v r4, ρ = [some (.fz (.int p)), some (.fz (nT row)), some (.fz (.int x)), some (.fz (.int v)), r4] ∧ 0 ≤ v ∧ v < p ∧ v = (row.take i).foldl (fun f n => f * (x - n) % p) 1) ⟨1, _, rfl, by omega, by omega, rfl⟩ (fun i a ρ hd ⟨v, r4, hr, v0, v1, hv⟩ => ?_) (fun ρ ⟨v, r4, hr, v0, v1, hv⟩ => ?_)
  · subst hr
    refine ⟨_, rfl, fun nxt hn => ?_⟩
    symm_saturate
    refine ⟨cmul_smallL (by omega) (by omega), by omega, hn _ ⟨_, _, rfl, Int.emod_nonneg _ (by omega), Int.emod_lt_of_pos _ (by omega), ?_⟩⟩
    rw [getElem?_snoc _ _ hd, List.foldl_append, ← hv]; rfl
  · rw [List.take_length] at hv
    subst hr hv
    symm_saturate
    exact h
theorem rd_are_one_lot (ds : List D) (Kr : D → Prop) (Kx : String → Prop) (h : S_are_one_lot ds Kr Kx) : W_are_one_lot (startE N_are_one_lot ds) ⟨fun _ => Kr .non, Kr, fun _ => False, fun _ => False, Kx⟩ := by
  obtain ⟨p, a, b, rfl, hk, h⟩ := h
  have h1 := hk.la
  have h2 := hk.lb
  unfold W_are_one_lot
  symm_saturate
  refine need_two hk ?_
  symm_saturate
  refine ⟨sortP_ints a (by omega), ?_⟩
  rw [sortD_ints]
  symm_saturate
  refine ⟨sortP_ints b (by omega), ?_⟩
  rw [sortD_ints]
  symm_saturate
  rw [eqv_nL]
  exact ⟨⟨cm_nL _, cm_nL _⟩, h⟩
theorem rd_points_agreeing (ds : List D) (Kr : D → Prop) (Kx : String → Prop) (h : S_points_agreeing ds Kr Kx) : W_points_agreeing (startE N_points_agreeing ds) ⟨fun _ => Kr .non, Kr, fun _ => False, fun _ => False, Kx⟩ := by
  obtain ⟨p, a, b, rfl, hk, h⟩ := h
  have hp2 := prime_P hk.hp
  unfold W_points_agreeing
  symm_saturate
  refine need_two hk ?_
  symm_saturate
  refine ⟨⟨by omega, by omega⟩, ?_⟩
  rw [rgD_rangeI]
  refine loopC_fm D.int (fun x => prodAt p a x == prodAt p b x) D.int (rangeI p) [] (fun x hx => ⟨_, rfl, fun N M hN => ?_⟩) ?_
  · have hx := mem_rangeI.mp hx
    symm_saturate
    refine ⟨p, a, x, rfl, hp2, hk.ia, hx.1, hx.2, ?_⟩
    symm_saturate
    refine ⟨p, b, x, rfl, hp2, hk.ib, hx.1, hx.2, ?_⟩
    symm_saturate
    exact hN
  symm_saturate
  exact h
end LW

set_option Elab.async false
set_option linter.all false
set_option maxRecDepth 100000
set_option maxHeartbeats 4000000
namespace LW
open PySem PySem.Spec PyProof.Rows L2 DL LM
variable [TabsC]
local macro_rules | `(tactic| symm_saturate) => `(tactic| try simp only [↓hold_ap, ↓cond_t, ↓cond_f, cond_t, cond_f, seqW_a, nextW_a, breakW_a, contW_a, exprW_a, retW_a, retN_a, setK_a, asgW_a, ownW_a, parW_a, ifW_a, forW_a, forRW_a, frzW_a, raiseW_a, appW_a, extW_a, trkW_a, putW_a, retHW_a, varW_a, cstW_a, binW_a, tupW_a, lstW_a, consA_a, nilA_a, callW_a, bltW_a, rng1A_a, rng2A_a, rng3A_a, zipA_a, seqA_a, compW_a, comp2W_a, andV_a, orV_a, notV_a, ifV_a, chainW_a, andT_a, orT_a, notT_a, boolW_a, truthW_a, negW_a, slcW_a, noO_a, someO_a, yesT_a, getW_a, sortIW_a, lamW_a, revW_a, setIW_a, augW_a, popW_a, appPopW_a, parOW_a, parOOW_a, updW_a, dcW_a, enumA_a, lrg1W_a, lrg2W_a, trg1W_a, trg2W_a, par3W_a, lenSetW_a, asgFW_a, setFW_a, swpW_a, cntW_a, eqA, neA, reprW, lenA, fdivA, minLW, maxLW, seqK, boolK, truthK, D.truth, slK, ixW, ixK, ixuW, eqW, neW, addW, subW, mulA, repL, fdivW, modW, powW, intW, ltW, leW, gtW, geW, isNonW, notNonW, inA, reprW, lenW, absW, int1W, max2W_e, min2W_e, tuple1W, list1W, sumW, allW, anyW, isiW, sortedW, ownL, startE, view, SV.view, Tgt.bs, Tgt.bss, setE, frzE, wipeD, D.ty, eqv_int, eqv_bool, cm_int, cm_bool, cm_non, atI_0, atI_1, atI_2, D.isNon, List.map_cons, List.map_nil, List.length_cons, List.length_nil, List.replicate, List.cons_append, List.nil_append, List.getElem?_cons_zero, List.getElem?_cons_succ, List.getElem?_nil, List.set_cons_zero, List.set_cons_succ, List.foldl_cons, List.foldl_nil, Option.map_some, Option.bind_some, reduceCtorEq, if_true, if_false, Bool.false_eq_true, ite_true, ite_false, false_implies, forall_const, true_and, and_true, Nat.reduceSub, Nat.reduceAdd, List.append_nil, sizeLine_eq, Bool.not_true, Bool.not_false, decide_true, decide_false, eq_self, Int.cast_ofNat_Int, Int.natCast_zero, Int.natCast_one, beq_self_eq_true, Option.getD_some, Option.getD_none, kb_NoneType_int, kb_NoneType_str, kb_NoneType_list, kb_NoneType_tuple, kb_NoneType_dict, kb_NoneType_bool, kb_bool_int, kb_bool_str, kb_bool_list, kb_bool_tuple, kb_bool_dict, kb_bool_bool, kb_int_int, kb_int_str, kb_int_list, kb_int_tuple, kb_int_dict, kb_int_bool, kb_str_int, kb_str_str, kb_str_list, kb_str_tuple, kb_str_dict, kb_str_bool, kb_list_int, kb_list_str, kb_list_list, kb_list_tuple, kb_list_dict, kb_list_bool, kb_tuple_int, kb_tuple_str, kb_tuple_list, kb_tuple_tuple, kb_tuple_dict, kb_tuple_bool, kb_dict_int, kb_dict_str, kb_dict_list, kb_dict_tuple, kb_dict_dict, kb_dict_bool, Nat.reduceLeDiff, Nat.zero_le, List.length_map, List.length_range, Int.toNat_natCast])
theorem inv_one {p x y : Int} (hp : primeB p = true) (x0 : 0 < x) (x1 : x < p) (y0 : 0 ≤ y) (y1 : y < p) : (x * y % p == 1) = decide (y = invS p x) := by
  obtain ⟨p3, p97⟩ := prime_p97 hp
  have hi : x * invS p x % p = 1 := inv_ok hp x0 x1
  have i0 : 0 ≤ invS p x := Int.emod_nonneg _ (by omega)
  have i1 : invS p x < p := Int.emod_lt_of_pos _ (by omega)
  rw [Bool.eq_iff_iff, beq_iff_eq, decide_eq_true_iff]
  constructor
  · intro h
    have : (x * (y - invS p x)) % p = 0 := by
      rw [Int.mul_sub]
      exact Int.emod_eq_emod_iff_emod_sub_eq_zero.mp (h.trans hi.symm)
    rcases prime_mul hp this with e | e
    · rw [Int.emod_eq_of_lt (by omega) x1] at e; omega
    · exact sub_mod_eq y0 y1 i0 i1 e
  · rintro rfl; exact hi
theorem filter_one {v : Int} : ∀ {l : List Int}, l.Nodup → v ∈ l → l.filter (fun y => decide (y = v)) = [v]
  | a :: l, hn, hm => by
    rw [List.nodup_cons] at hn
    by_cases h : a = v
    · subst h
      rw [List.filter_cons_of_pos (by simp)]
      congr 1
      rw [List.filter_eq_nil_iff]
      intro b hb e
      have : b = a := by simpa using e
      exact hn.1 (this ▸ hb)
    · rw [List.filter_cons_of_neg (by simp [h])]
      rcases List.mem_cons.mp hm with e | e
      · exact absurd e.symm h
      · exact filter_one hn.2 e
theorem rd__law_inverse (ds : List D) (Kr : D → Prop) (Kx : String → Prop) (h : S__law_inverse ds Kr Kx) : W__law_inverse (startE N__law_inverse ds) ⟨fun _ => Kr .non, Kr, fun _ => False, fun _ => False, Kx⟩ := by
  obtain ⟨p, x, rfl, hp, x0, x1, h⟩ := h
  have hp2 := prime_P hp
  unfold W__law_inverse
  symm_saturate
  refine ⟨⟨by omega, by omega⟩, ?_⟩
  rw [rgD_rangeI]
  refine loopC_fm D.int (fun y => decide (y = invS p x)) D.int (rangeI p) [] (fun y hy => ⟨_, rfl, fun N M hN => ?_⟩) ?_
  · have hy := mem_rangeI.mp hy
    symm_saturate
    refine ⟨cmul_small (by omega) (by omega), by omega, ?_⟩
    rw [inv_one hp x0 x1 hy.1 hy.2]
    exact hN
  rw [filter_one (v := invS p x) (nodup_rangeI p) (mem_rangeI.mpr ⟨Int.emod_nonneg _ (by omega), Int.emod_lt_of_pos _ (by omega)⟩)]
  symm_saturate
  exact h
theorem ask_ne {p : Int} {row lot : List Int} {x : Int} (h : canAsk row lot x = true) : x ∉ row ∧ x ∉ lot := by
  unfold canAsk at h
  simpa using h
theorem sub_pos {p x r : Int} (x0 : 0 ≤ x ∧ x < p) (r0 : 0 ≤ r ∧ r < p) (h : x ≠ r) : 0 < (x - r) % p ∧ (x - r) % p < p := by
  have h0 := Int.emod_nonneg (x - r) (show p ≠ 0 by omega)
  have h1 := Int.emod_lt_of_pos (x - r) (show 0 < p by omega)
  have : (x - r) % p ≠ 0 := fun e => h (sub_mod_eq x0.1 x0.2 r0.1 r0.2 e)
  omega
theorem rd__law_sums (ds : List D) (Kr : D → Prop) (Kx : String → Prop) (h : S__law_sums ds Kr Kx) : W__law_sums (startE N__law_sums ds) ⟨fun _ => Kr .non, Kr, fun _ => False, fun _ => False, Kx⟩ := by
  obtain ⟨p, row, lot, counts, x, rfl, hk, x0, x1, ha, h⟩ := h
  have hp := hk.lk.hp
  have hp2 := prime_P hp
  obtain ⟨n1, n2⟩ := ask_ne (p := p) ha
  unfold W__law_sums
  rw [seqW_s]
  symm_saturate
  refine loopC_map D.int (fun r => D.int (invS p ((x - r) % p))) row (fun r hr => ⟨_, rfl, fun N hN => ?_⟩) ?_
  · symm_saturate
    have := sub_pos ⟨x0, x1⟩ (hk.lk.r r hr) (fun e => n1 (e ▸ hr))
    exact ⟨by omega, p, _, rfl, hp, this.1, this.2, hN⟩
  symm_saturate
  refine ⟨row.map fun r => invS p ((x - r) % p), by rw [List.map_map]; rfl, ?_⟩
  (symm_saturate; (try simp only [hold_ap, hold2_ap]); (try rw [seqW_s]); symm_saturate)
  have h20 := hk.lk.ll
  refine ⟨⟨by omega, by omega⟩, ?_⟩
  rw [rgD_map]
  have hcl := hk.len
  refine loopC_map _ (fun i : Nat => D.int (counts.getD i 0 * invS p ((x - lot.getD i 0) % p))) (List.range lot.length) (fun i hi => ⟨_, rfl, fun N hN => ?_⟩) ?_
  · rw [List.mem_range] at hi
    symm_saturate
    rw [atI_ints _ (by omega)]
    symm_saturate
    rw [atI_ints _ (by omega)]
    symm_saturate
    have hli : lot.getD i 0 ∈ lot := by
      rw [List.getD_eq_getElem?_getD, List.getElem?_eq_getElem hi]; exact List.getElem_mem hi
    have hci : counts.getD i 0 ∈ counts := by
      rw [List.getD_eq_getElem?_getD, List.getElem?_eq_getElem (by omega)]; exact List.getElem_mem _
    have := sub_pos ⟨x0, x1⟩ (hk.lk.l _ hli) (fun e => n2 (e ▸ hli))
    have hcr := hk.c _ hci
    refine ⟨by omega, p, _, rfl, hp, this.1, this.2, ?_⟩
    symm_saturate
    exact ⟨cmul_smallL (by omega) (by omega), hN⟩
  symm_saturate
  have ez : (List.range lot.length).map (fun i : Nat => counts.getD i 0 * invS p ((x - lot.getD i 0) % p)) = (lot.zip counts).map fun q => q.2 * invS p ((x - q.1) % p) := by
    refine List.ext_getElem (by rw [List.length_map, List.length_map, List.length_range, List.length_zip]; omega) fun i h1 h2 => ?_
    rw [List.length_map, List.length_range] at h1
    rw [List.getElem_map, List.getElem_map, List.getElem_range, List.getElem_zip, List.getD_eq_getElem?_getD, List.getD_eq_getElem?_getD, List.getElem?_eq_getElem h1, List.getElem?_eq_getElem (by omega)]
    rfl
  refine ⟨(lot.zip counts).map fun q => q.2 * invS p ((x - q.1) % p), by rw [← ez, List.map_map]; rfl, ?_⟩
  symm_saturate
  try simp only [hold_ap, hold2_ap]
  symm_saturate
  refine ⟨by omega, ?_⟩
  symm_saturate
  refine ⟨by omega, ?_⟩
  symm_saturate
  exact h
end LW

set_option Elab.async false
set_option linter.all false
set_option maxRecDepth 100000
set_option maxHeartbeats 4000000
namespace LW
open PySem PySem.Spec PyProof.Rows L2 DL LM
variable [TabsC]
theorem mine_fS (p : Int) (x : Int) : ∀ row : List Int, fS p (ones row.length) row x = mineS p row x
  | [] => rfl
  | r :: row => by
    have ih := mine_fS p x row
    unfold ones mineS at *
    rw [List.length_cons, List.replicate_succ, fS, ih, Int.one_mul, List.map_cons, List.sum_cons]
theorem their_fS (p : Int) (x : Int) : ∀ lot counts : List Int, fS p counts lot x = theirS p lot counts x
  | [], [] => rfl
  | [], _ :: _ => by simp [fS, theirS]
  | _ :: _, [] => by simp [fS, theirS]
  | r :: lot, c :: counts => by
    have ih := their_fS p x lot counts
    unfold theirS at *
    rw [fS, ih, List.zip_cons_cons, List.map_cons, List.sum_cons]
def rightB (row lot counts : List Int) : Bool := decide (strangeL row lot = []) && decide (counts = tallyL row lot)
theorem strange_nil {row lot : List Int} : strangeL row lot = [] ↔ ∀ r ∈ row, r ∈ lot := by
  unfold strangeL
  rw [List.map_eq_nil_iff, List.filter_eq_nil_iff]
  constructor
  · intro h r hr
    obtain ⟨i, hi⟩ := List.mem_iff_getElem?.mp hr
    have := h (r, i) (List.mem_iff_getElem?.mpr ⟨i, by rw [List.getElem?_zipIdx, hi]; simp⟩)
    simpa using this
  · intro h q hq
    obtain ⟨i, hi⟩ := List.mem_iff_getElem?.mp hq
    have := h q.1 (List.mem_of_getElem? (zipIdx_some hi).1)
    simp [this]
theorem asc_nodup {lot : List Int} (h : lot.Pairwise (· < ·)) : lot.Nodup := List.nodup_iff_pairwise_ne.mpr (h.imp fun {a b} h e => by omega)
theorem right_iff {p : Int} {row lot counts : List Int} (hk : Ct p row lot counts) (hs : (row.length : Int) < p) : decide (lackL p row lot counts = []) = rightB row lot counts := by
  unfold rightB
  rw [Bool.eq_iff_iff, Bool.and_eq_true, decide_eq_true_iff, decide_eq_true_iff, decide_eq_true_iff, strange_nil, lack_nil hk.lk.hp hk.lk.r hk.lk.l hk.c (asc_nodup hk.lk.asc) hk.len hs]
  rfl
theorem lack_agree {p : Int} {row lot counts : List Int} (hk : Ct p row lot counts) {x : Int} (x0 : 0 ≤ x) (x1 : x < p) (ha : canAsk row lot x = true) : (ev p (lackL p row lot counts) x == 0) = agree p row lot counts x := by
  obtain ⟨n1, n2⟩ := ask_ne (p := p) ha
  rw [lack_root hk.lk.hp ⟨x0, x1⟩ hk.len hk.lk.r hk.lk.l n1 n2, mine_fS, their_fS]; rfl
theorem good_roots {p : Int} {row lot counts : List Int} (hk : Ct p row lot counts) : (rootsL p (lackL p row lot counts)).filter (canAsk row lot) = goodL p row lot counts := by
  unfold rootsL goodL
  rw [List.filter_filter]
  refine List.filter_congr fun x hx => ?_
  have hx := mem_rangeI.mp hx
  cases ha : canAsk row lot x with
  | false => rfl
  | true => rw [lack_agree hk hx.1 hx.2 ha]
theorem false_eq {p : Int} {row lot counts : List Int} (hk : Ct p row lot counts) (hs : (row.length : Int) < p) : falseL p row lot counts = if rightB row lot counts = true then [] else goodL p row lot counts := by
  unfold falseL
  rw [good_roots hk, ← right_iff hk hs]
  by_cases h : lackL p row lot counts = []
  · rw [if_pos h, decide_eq_true h]; rfl
  · rw [if_neg h, decide_eq_false h]; rfl
theorem good_le {p : Int} {row lot counts : List Int} (hk : Ct p row lot counts) (hs : (row.length : Int) < p) (hr : rightB row lot counts = false) : ((goodL p row lot counts).length : Int) ≤ max 0 ((row.length : Int) + (lot.length : Int) - 1) := by
  have hp := hk.lk.hp
  obtain ⟨p3, p97⟩ := prime_p97 hp
  have hne : lackL p row lot counts ≠ [] := fun e => by rw [← right_iff hk hs, decide_eq_true e] at hr; cases hr
  have h1 := roots_lt hp (lack_inr (by omega) row lot counts) (tr_trim _) hne (rs := goodL p row lot counts) ((nodup_rangeI p).filter _) fun r hr => by
    obtain ⟨h1, h2⟩ := List.mem_filter.mp hr
    have hx := mem_rangeI.mp h1
    rw [Bool.and_eq_true] at h2
    have := lack_agree hk hx.1 hx.2 h2.1
    rw [h2.2, beq_iff_eq, ev_pv] at this
    exact ⟨hx.1, hx.2, this⟩
  have h2 := lack_len (p := p) (by omega) (row := row) hk.len
  omega
theorem good_all {p : Int} {row lot counts : List Int} (hk : Ct p row lot counts) (hs : (row.length : Int) < p) (hr : rightB row lot counts = true) : goodL p row lot counts = askedL p row lot := by
  have he : lackL p row lot counts = [] := by rw [← right_iff hk hs] at hr; exact of_decide_eq_true hr
  unfold goodL askedL
  refine List.filter_congr fun x hx => ?_
  have hx := mem_rangeI.mp hx
  cases ha : canAsk row lot x with
  | false => rfl
  | true => rw [← lack_agree hk hx.1 hx.2 ha, he]; rfl
theorem srt_perm_iff {xs ys : List Int} : srtI xs = srtI ys ↔ xs.Perm ys := by
  constructor
  · intro h
    exact (srtI_perm xs).symm.trans (h ▸ srtI_perm ys)
  · intro h
    exact List.Perm.eq_of_pairwise (le := fun a b : Int => a ≤ b) (fun a b _ _ h1 h2 => by omega) (srtI_sorted xs) (srtI_sorted ys) ((srtI_perm xs).trans (h.trans (srtI_perm ys).symm))
theorem same_points {p : Int} (hp : 2 ≤ p) {a b : List Int} (h : srtI a = srtI b) : ((rangeI p).filter fun x => prodAt p a x == prodAt p b x) = rangeI p := by
  rw [List.filter_eq_self]
  intro x _
  rw [prodAt_eq hp, prodAt_eq hp, prodR_perm (srt_perm_iff.mp h)]; simp
theorem right_same {p : Int} {row lot counts : List Int} (hk : Ct p row lot counts) (hr : rightB row lot counts = true) : srtI row = srtI (spreadL lot counts) := by
  unfold rightB at hr
  rw [Bool.and_eq_true, decide_eq_true_iff, decide_eq_true_iff, strange_nil] at hr
  rw [srt_perm_iff, hr.2]
  exact (spread_perm (asc_nodup hk.lk.asc) hr.1).symm
theorem places_eq (row lot : List Int) : ((List.range row.length).filter fun i => !decide (row.getD i 0 ∈ lot)).map (fun i : Nat => (i : Int)) = strangeL row lot := by
  have e : row.zipIdx = (List.range row.length).map fun i => (row.getD i 0, i) := by
    refine List.ext_getElem (by simp) fun i h1 h2 => ?_
    simp at h1
    simp [List.getD_eq_getElem?_getD, h1]
  unfold strangeL
  rw [e, List.filter_map, List.map_map]
  rfl
theorem count_len (row : List Int) (x : Int) : (row.filter fun y => y == x).length = row.count x := by
  rw [List.count_eq_countP, List.countP_eq_length_filter]
end LW

set_option Elab.async false
set_option linter.all false
set_option maxRecDepth 100000
set_option maxHeartbeats 4000000
namespace LW
open PySem PySem.Spec PyProof.Rows L2 DL LM
variable [TabsC]
local macro_rules | `(tactic| symm_saturate) => `(tactic| try simp only [↓hold_ap, ↓cond_t, ↓cond_f, cond_t, cond_f, seqW_a, nextW_a, breakW_a, contW_a, exprW_a, retW_a, retN_a, setK_a, asgW_a, ownW_a, parW_a, ifW_a, forW_a, forRW_a, frzW_a, raiseW_a, appW_a, extW_a, trkW_a, putW_a, retHW_a, varW_a, cstW_a, binW_a, tupW_a, lstW_a, consA_a, nilA_a, callW_a, bltW_a, rng1A_a, rng2A_a, rng3A_a, zipA_a, seqA_a, compW_a, comp2W_a, andV_a, orV_a, notV_a, ifV_a, chainW_a, andT_a, orT_a, notT_a, boolW_a, truthW_a, negW_a, slcW_a, noO_a, someO_a, yesT_a, getW_a, sortIW_a, lamW_a, revW_a, setIW_a, augW_a, popW_a, appPopW_a, parOW_a, parOOW_a, updW_a, dcW_a, enumA_a, lrg1W_a, lrg2W_a, trg1W_a, trg2W_a, par3W_a, lenSetW_a, asgFW_a, setFW_a, swpW_a, cntW_a, eqA, neA, reprW, lenA, fdivA, minLW, maxLW, seqK, boolK, truthK, D.truth, slK, ixW, ixK, ixuW, eqW, neW, addW, subW, mulA, repL, fdivW, modW, powW, intW, ltW, leW, gtW, geW, isNonW, notNonW, inA, reprW, lenW, absW, int1W, max2W_e, min2W_e, tuple1W, list1W, sumW, allW, anyW, isiW, sortedW, ownL, startE, view, SV.view, Tgt.bs, Tgt.bss, setE, frzE, wipeD, D.ty, eqv_int, eqv_bool, cm_int, cm_bool, cm_non, atI_0, atI_1, atI_2, D.isNon, List.map_cons, List.map_nil, List.length_cons, List.length_nil, List.replicate, List.cons_append, List.nil_append, List.getElem?_cons_zero, List.getElem?_cons_succ, List.getElem?_nil, List.set_cons_zero, List.set_cons_succ, List.foldl_cons, List.foldl_nil, Option.map_some, Option.bind_some, reduceCtorEq, if_true, if_false, Bool.false_eq_true, ite_true, ite_false, false_implies, forall_const, true_and, and_true, Nat.reduceSub, Nat.reduceAdd, List.append_nil, sizeLine_eq, Bool.not_true, Bool.not_false, decide_true, decide_false, eq_self, Int.cast_ofNat_Int, Int.natCast_zero, Int.natCast_one, beq_self_eq_true, Option.getD_some, Option.getD_none, kb_NoneType_int, kb_NoneType_str, kb_NoneType_list, kb_NoneType_tuple, kb_NoneType_dict, kb_NoneType_bool, kb_bool_int, kb_bool_str, kb_bool_list, kb_bool_tuple, kb_bool_dict, kb_bool_bool, kb_int_int, kb_int_str, kb_int_list, kb_int_tuple, kb_int_dict, kb_int_bool, kb_str_int, kb_str_str, kb_str_list, kb_str_tuple, kb_str_dict, kb_str_bool, kb_list_int, kb_list_str, kb_list_list, kb_list_tuple, kb_list_dict, kb_list_bool, kb_tuple_int, kb_tuple_str, kb_tuple_list, kb_tuple_tuple, kb_tuple_dict, kb_tuple_bool, kb_dict_int, kb_dict_str, kb_dict_list, kb_dict_tuple, kb_dict_dict, kb_dict_bool, Nat.reduceLeDiff, Nat.zero_le, List.length_map, List.length_range, Int.toNat_natCast])
theorem rd_law (ds : List D) (Kr : D → Prop) (Kx : String → Prop) (h : S_law ds Kr Kx) : W_law (startE N_law ds) ⟨fun _ => Kr .non, Kr, fun _ => False, fun _ => False, Kx⟩ := by
  obtain ⟨ns, rfl, h⟩ := h
  unfold W_law
  symm_saturate
  refine ⟨ns, rfl, fun a c => ?_⟩
  symm_saturate
  refine ⟨by decide, ?_⟩
  refine forL_i (fun i ρ => ∃ r2 r3 r4 r5 r6 r7 r8 r9 r10 r11 r12 r13 r14 r15 r16 r17 r18 r19, ρ = [some (.fz (.scr ns)), some (.fz (.hnd a c)), r2, r3, r4, r5, r6, r7, r8, r9, r10, r11, r12, r13, r14, r15, r16, r17, r18, r19]) ⟨_, _, _, _, _, _, _, _, _, _, _, _, _, _, _, _, _, _, rfl⟩ (fun i d ρ hd ⟨r2, r3, r4, r5, r6, r7, r8, r9, r10, r11, r12, r13, r14, r15, r16, r17, r18, r19, hr⟩ => ?_) (fun ρ ⟨r2, r3, r4, r5, r6, r7, r8, r9, r10, r11, r12, r13, r14, r15, r16, r17, r18, r19, hr⟩ => ?_)
  rotate_left
  · subst hr
    symm_saturate
    exact h
  subst hr
  refine ⟨_, rfl, fun nxt hn => ?_⟩
  (rw [seqW_s]; symm_saturate)
  refine ⟨a, c, _, _, rfl, .inl rfl, by simp, by simp, fun q hq => ?_⟩
  have hq2 : ∃ p, q = .int p ∧ primeB p = true ∧ 5 ≤ p ∧ p ≤ 23 := by
    simp only [List.mem_cons, List.not_mem_nil, or_false] at hq
    rcases hq with rfl | rfl | rfl | rfl | rfl <;> exact ⟨_, rfl, by decide +kernel, by decide, by decide⟩
  obtain ⟨p, rfl, hp, p5, p23⟩ := hq2
  clear hq
  have hp2 := prime_P hp
  (symm_saturate; (try simp only [hold_ap, hold2_ap]); (try rw [seqW_s]); symm_saturate)
  refine ⟨⟨by omega, by omega⟩, ?_⟩
  rw [rgD_rangeI]
  refine ⟨a, c, _, _, rfl, .inl rfl, by rw [List.length_map, rangeI_len]; omega, fun ys hys => ?_⟩
  obtain ⟨zs, rfl, hzs⟩ := perm_ints hys
  symm_saturate
  refine ⟨a, c, 5, rfl, by decide, by decide, fun m m0 m1 => ?_⟩
  symm_saturate
  obtain ⟨k, rfl⟩ : ∃ k : Nat, m = (k : Nat) := ⟨m.toNat, by omega⟩
  rw [cutD_to, ← List.map_take]
  refine ⟨sortP_ints _ (by rw [List.length_take]; omega), ?_⟩
  rw [sortD_ints]
  have hlot : InR p (srtI (zs.take k)) ∧ (srtI (zs.take k)).Pairwise (· < ·) ∧ (srtI (zs.take k)).length ≤ 4 := by
    refine ⟨fun x hx => mem_rangeI.mp (hzs.subset (List.mem_of_mem_take ((srtI_perm _).subset hx))), srtI_strict ((hzs.nodup_iff.mpr (nodup_rangeI p)).sublist (List.take_sublist _ _)), by rw [(srtI_perm _).length_eq, List.length_take]; omega⟩
  generalize srtI (zs.take k) = lot at hlot
  clear hzs hys
  obtain ⟨hl1, hl2, hl3⟩ := hlot
  (symm_saturate; (try simp only [hold_ap, hold2_ap]); (try rw [seqW_s]); symm_saturate)
  refine ⟨a, c, 4, rfl, by decide, by decide, fun t t0 t1 => ?_⟩
  symm_saturate
  refine ⟨⟨by omega, by omega⟩, ?_⟩
  rw [rgD_map]
  refine loopC_i (fun i acc => ∃ xs, acc = xs.map D.int ∧ InR p xs ∧ xs.length = i) ⟨[], rfl, (fun a ha => nomatch ha), rfl⟩ (fun i d acc hd ⟨xs, hacc, hx, hl⟩ => ⟨_, rfl, fun N M hN hM => ?_⟩) (fun acc ⟨row, hacc, hr1, hr2⟩ => ?_)
  · symm_saturate
    refine ⟨a, c, p, rfl, by omega, by omega, fun v v0 v1 => ?_⟩
    symm_saturate
    refine ⟨by omega, a, c, _, _, rfl, .inl rfl, by simp, by simp; omega, fun y hy => ?_⟩
    obtain ⟨y, rfl, hy2⟩ : ∃ z, y = D.int z ∧ 0 ≤ z ∧ z < p := by
      rcases List.mem_append.mp hy with hy | hy
      · obtain ⟨z, hz, rfl⟩ := List.mem_map.mp hy
        exact ⟨z, rfl, hl1 z hz⟩
      · simp at hy; exact ⟨v, hy, v0, v1⟩
    exact hN _ ⟨xs ++ [y], by rw [hacc, List.map_append]; rfl, hx.app fun b hb => by rw [List.mem_singleton] at hb; subst hb; exact hy2, by rw [List.length_append, hl]; rfl⟩
  subst hacc
  rw [List.length_map, List.length_range] at hr2
  have hrl : row.length ≤ 3 := by omega
  have hs : (row.length : Int) < p := by omega
  have hk : Lk p row lot := ⟨hp, hr1, hl1, by omega, by omega, hl2⟩
  (symm_saturate; (try simp only [hold_ap, hold2_ap]); (try rw [seqW_s]); symm_saturate)
  refine loopC_map D.int (fun x => D.int ((row.count x : Nat) : Int)) lot (fun x hx => ⟨_, rfl, fun N hN => ?_⟩) ?_
  · symm_saturate
    refine loopC_fm D.int (fun y => y == x) D.int row [] (fun y hy => ⟨_, rfl, fun N M hN => ?_⟩) ?_
    · symm_saturate
      exact hN
    symm_saturate
    rw [count_len]
    exact hN
  have ed : (D.tuple (lot.map fun x => D.int ((row.count x : Nat) : Int))) = nT (tallyL row lot) := by unfold tallyL nT; rw [List.map_map]; rfl
  have htl : (tallyL row lot).length = lot.length := by unfold tallyL; rw [List.length_map]
  have hti : InR p (tallyL row lot) := fun x hx => by
    obtain ⟨l, _, rfl⟩ := List.mem_map.mp hx
    have : row.count l ≤ row.length := List.count_le_length
    omega
  symm_saturate
  rw [ed]
  try simp only [hold_ap, hold2_ap]
  refine seq_P (fun ρ => ∃ counts, Ct p row lot counts ∧ ρ = [some (.fz (.scr ns)), some (.fz (.hnd a c)), some (.fz d), some (.fz (.int p)), some (.fz (nT lot)), some (.fz (nT row)), some (.fz (nT (tallyL row lot))), some (.fz (nT counts)), r8, r9, r10, r11, r12, r13, r14, r15, r16, r17, r18, r19]) (fun NN hNN => ?_) (fun ρ hρ => ?_)
  · symm_saturate
    refine ⟨a, c, 2, rfl, by decide, by decide, fun v _ _ => ?_⟩
    symm_saturate
    by_cases hv : v = 0
    · refine cond_is (d := true) (by simp [hv]) ?_
      symm_saturate
      exact hNN _ ⟨_, ⟨hk, hti, htl⟩, rfl⟩
    · refine cond_is (d := false) (by simp [hv]) ?_
      symm_saturate
      refine ⟨a, c, p, lot.length, rfl, by omega, by omega, by omega, by omega, fun xs hx1 hx2 => ?_⟩
      symm_saturate
      exact hNN _ ⟨_, ⟨hk, hx1, by omega⟩, rfl⟩
  obtain ⟨counts, hc, rfl⟩ := hρ
  have hcl := hc.len
  (rw [seqW_s]; symm_saturate)
  refine ⟨⟨by omega, by omega⟩, ?_⟩
  rw [rgD_map]
  refine loopC_fm (fun k : Nat => D.int (k : Nat)) (fun i => !decide (row.getD i 0 ∈ lot)) (fun k : Nat => D.int (k : Nat)) (List.range row.length) [] (fun i hi => ⟨_, rfl, fun N M hN => ?_⟩) ?_
  · rw [List.mem_range] at hi
    symm_saturate
    rw [atI_ints _ hi]
    symm_saturate
    rw [any_mem]
    exact ⟨cm_nT lot, hN⟩
  have ep : ((List.range row.length).filter fun i => !decide (row.getD i 0 ∈ lot)).map (fun k : Nat => D.int (k : Nat)) = (strangeL row lot).map D.int := by
    rw [← places_eq, List.map_map]; rfl
  have hsl : (strangeL row lot).length ≤ 3 := by
    unfold strangeL
    rw [List.length_map]
    refine Nat.le_trans (List.length_filter_le _ _) ?_
    simp; omega
  rw [ep]
  (symm_saturate; (try simp only [hold_ap, hold2_ap]); (try rw [seqW_s]); symm_saturate)
  refine ⟨p, row, lot, rfl, hk, ?_⟩
  symm_saturate
  refine kept_go (kp_nT _ (by omega) 3) ?_
  symm_saturate
  refine ⟨p, row, lot, rfl, hk, ?_⟩
  symm_saturate
  refine kept_go (kp_nT _ (by omega) 3) ?_
  symm_saturate
  try simp only [hold_ap, hold2_ap]
  refine seq_P (fun ρ => ρ = [some (.fz (.scr ns)), some (.fz (.hnd a c)), some (.fz d), some (.fz (.int p)), some (.fz (nT lot)), some (.fz (nT row)), some (.fz (nT (tallyL row lot))), some (.fz (nT counts)), some (.fz (nT (strangeL row lot))), some (.fz (.bool (rightB row lot counts))), r10, r11, r12, r13, r14, r15, r16, r17, r18, r19]) (fun NN hNN => ?_) (fun ρ hρ => ?_)
  · have e1 : (((strangeL row lot).length : Int) == 0) = decide (strangeL row lot = []) := by
      cases strangeL row lot with
      | nil => rfl
      | cons a l => simp; omega
    have hNN := hNN _ rfl
    unfold rightB at hNN
    symm_saturate
    rw [e1]
    cases h1 : decide (strangeL row lot = []) with
    | false =>
      rw [h1] at hNN
      symm_saturate
      exact hNN
    | true =>
      rw [h1] at hNN
      symm_saturate
      rw [eqv_nT]
      exact ⟨⟨cm_nT _, cm_nT _⟩, hNN⟩
  subst hρ
  have hrt := right_iff hc hs
  (rw [seqW_s]; symm_saturate)
  refine ⟨p, row, lot, counts, rfl, hc, ?_⟩
  rw [hrt]
  symm_saturate
  refine kept_go (kp_bool _ 4) ?_
  symm_saturate
  refine ⟨p, row, lot, counts, rfl, hc, ?_⟩
  symm_saturate
  rw [show (D.tuple []) = nT [] from rfl, eqv_nT, hrt]
  refine ⟨⟨cm_nT _, cm_nT _⟩, ?_⟩
  refine cond_is (d := false) (by simp) ?_
  (symm_saturate; (try simp only [hold_ap, hold2_ap]); (try rw [seqW_s]); symm_saturate)
  refine ⟨⟨by omega, by omega⟩, ?_⟩
  rw [rgD_rangeI]
  refine loopC_fm D.int (canAsk row lot) D.int (rangeI p) [] (fun x hx => ⟨_, rfl, fun N M hN => ?_⟩) ?_
  · symm_saturate
    rw [any_mem]
    refine ⟨cm_nT row, ?_⟩
    unfold canAsk at hN
    cases h1 : decide (x ∈ row) with
    | true => rw [h1] at hN; symm_saturate; simpa using hN
    | false =>
      rw [h1] at hN
      symm_saturate
      rw [any_mem]
      exact ⟨cm_nT lot, by simpa using hN⟩
  rw [show (rangeI p).filter (canAsk row lot) = askedL p row lot from rfl]
  have hal : (askedL p row lot).length ≤ 23 := by
    refine Nat.le_trans (List.length_filter_le _ _) ?_
    rw [rangeI_len]; omega
  have hgl : (goodL p row lot counts).length ≤ 23 := by
    refine Nat.le_trans (List.length_filter_le _ _) ?_
    rw [rangeI_len]; omega
  (symm_saturate; (try simp only [hold_ap, hold2_ap]); (try rw [seqW_s]); symm_saturate)
  (symm_saturate; (try simp only [hold_ap, hold2_ap]); (try rw [seqW_s]); symm_saturate)
  refine ⟨⟨by omega, by omega⟩, ?_⟩
  rw [rgD_rangeI]
  refine for_ints D.int (rangeI p) (fun i ρ => ∃ r12 r13 r14, ρ = [some (.fz (.scr ns)), some (.fz (.hnd a c)), some (.fz d), some (.fz (.int p)), some (.fz (nT lot)), some (.fz (nT row)), some (.fz (nT (tallyL row lot))), some (.fz (nT counts)), some (.fz (nT (strangeL row lot))), some (.fz (.bool (rightB row lot counts))), some (.fz (nL (askedL p row lot))), some (.fz (nL (((rangeI p).take i).filter fun x => canAsk row lot x && agree p row lot counts x))), r12, r13, r14, r15, r16, r17, r18, r19]) ⟨_, _, _, rfl⟩ (fun j x ρ hd ⟨r12, r13, r14, hr⟩ => ?_) (fun ρ ⟨r12, r13, r14, hr⟩ => ?_)
  · subst hr
    have hx := mem_rangeI.mp (List.mem_of_getElem? hd)
    have hsz : (((rangeI p).take j).filter fun x => canAsk row lot x && agree p row lot counts x).length ≤ 23 := by
      refine Nat.le_trans (List.length_filter_le _ _) ?_
      rw [List.length_take, rangeI_len]; omega
    have ha : decide (x ∈ askedL p row lot) = canAsk row lot x := by
      unfold askedL
      rw [Bool.eq_iff_iff, decide_eq_true_iff, List.mem_filter]
      exact ⟨fun h => h.2, fun h => ⟨List.mem_of_getElem? hd, h⟩⟩
    have yes : (canAsk row lot x && agree p row lot counts x) = true → nL (((rangeI p).take (j + 1)).filter fun x => canAsk row lot x && agree p row lot counts x) = .list ((((rangeI p).take j).filter fun x => canAsk row lot x && agree p row lot counts x).map D.int ++ [.int x]) := fun e => by
      unfold nL; rw [filter_snoc_t _ hd e, List.map_append]; rfl
    have no : (canAsk row lot x && agree p row lot counts x) = false → nL (((rangeI p).take (j + 1)).filter fun x => canAsk row lot x && agree p row lot counts x) = nL (((rangeI p).take j).filter fun x => canAsk row lot x && agree p row lot counts x) := fun e => by
      rw [filter_snoc_f _ hd e]
    refine ⟨_, rfl, fun nxt hn => ?_⟩
    (rw [seqW_s]; symm_saturate)
    rw [any_mem, ha]
    refine ⟨cm_nL _, ?_⟩
    cases e : canAsk row lot x with
    | false =>
      rw [e] at no
      rw [no rfl] at hn
      symm_saturate
      refine ⟨p, row, lot, counts, x, rfl, hc, hx.1, hx.2, ?_⟩
      rw [e, if_neg (by simp)]
      symm_saturate
      refine ⟨by simp, ?_⟩
      symm_saturate
      exact hn _ ⟨_, _, _, rfl⟩
    | true =>
      rw [e, Bool.true_and] at no yes
      (symm_saturate; (try simp only [hold_ap, hold2_ap]); (try rw [seqW_s]); symm_saturate)
      refine ⟨p, row, lot, counts, x, rfl, hc, hx.1, hx.2, e, ?_⟩
      (symm_saturate; (try simp only [hold_ap, hold2_ap]); (try rw [seqW_s]); symm_saturate)
      rw [show (mineS p row x % p == theirS p lot counts x % p) = agree p row lot counts x from rfl]
      cases e2 : agree p row lot counts x with
      | false =>
        rw [no e2] at hn
        symm_saturate
        refine ⟨by omega, ?_⟩
        symm_saturate
        try simp only [hold_ap, hold2_ap]
        symm_saturate
        refine ⟨p, row, lot, counts, x, rfl, hc, hx.1, hx.2, ?_⟩
        rw [e, if_pos rfl]
        symm_saturate
        rw [show (mineS p row x % p == theirS p lot counts x % p) = agree p row lot counts x from rfl]
        refine kept_go (kp_bool _ 4) ?_
        symm_saturate
        exact hn _ ⟨_, _, _, rfl⟩
      | true =>
        rw [yes e2] at hn
        symm_saturate
        refine ⟨by omega, ?_⟩
        symm_saturate
        try simp only [hold_ap, hold2_ap]
        symm_saturate
        refine ⟨p, row, lot, counts, x, rfl, hc, hx.1, hx.2, ?_⟩
        rw [e, if_pos rfl]
        symm_saturate
        rw [show (mineS p row x % p == theirS p lot counts x % p) = agree p row lot counts x from rfl]
        refine kept_go (kp_bool _ 4) ?_
        symm_saturate
        exact hn _ ⟨_, _, _, rfl⟩
  rw [List.take_length] at hr
  subst hr
  rw [show ((rangeI p).filter fun x => canAsk row lot x && agree p row lot counts x) = goodL p row lot counts from rfl]
  try simp only [hold_ap, hold2_ap]
  have kT : ∀ l : List Int, l.length ≤ 23 → KpN 4 (nT l) := fun l h => kp_nT _ (by omega) 3
  refine seq_P (fun ρ => ρ = [some (.fz (.scr ns)), some (.fz (.hnd a c)), some (.fz d), some (.fz (.int p)), some (.fz (nT lot)), some (.fz (nT row)), some (.fz (nT (tallyL row lot))), some (.fz (nT counts)), some (.fz (nT (strangeL row lot))), some (.fz (.bool (rightB row lot counts))), some (.fz (nL (askedL p row lot))), some (.fz (nL (goodL p row lot counts))), r12, r13, r14, r15, r16, r17, r18, r19]) (fun NN hNN => ?_) (fun ρ hρ => ?_)
  · have hNN := hNN _ rfl
    symm_saturate
    refine ⟨p, row, lot, counts, rfl, hc, ?_⟩
    symm_saturate
    refine kept_go (kT _ hgl) ?_
    symm_saturate
    refine ⟨p, row, lot, counts, rfl, hc, ?_⟩
    unfold shareD
    by_cases he : askedL p row lot = []
    · rw [if_pos he]
      symm_saturate
      refine cond_is (d := false) (by rw [he]; rfl) ?_
      symm_saturate
      refine kept_go (kp_non 4) ?_
      symm_saturate
      exact hNN
    · rw [if_neg he]
      have hpos := List.length_pos_iff.mpr he
      symm_saturate
      refine cond_is (d := true) (decide_eq_true (by omega)) ?_
      symm_saturate
      refine ⟨_, _, rfl, by omega, by omega, by omega, ?_⟩
      symm_saturate
      refine kept_go (kp_two (kp_int _ _) (kp_int _ _)) ?_
      symm_saturate
      exact hNN
  subst hρ
  refine seq_P (fun ρ => ρ = [some (.fz (.scr ns)), some (.fz (.hnd a c)), some (.fz d), some (.fz (.int p)), some (.fz (nT lot)), some (.fz (nT row)), some (.fz (nT (tallyL row lot))), some (.fz (nT counts)), some (.fz (nT (strangeL row lot))), some (.fz (.bool (rightB row lot counts))), some (.fz (nL (askedL p row lot))), some (.fz (nL (goodL p row lot counts))), r12, r13, r14, r15, r16, r17, r18, r19]) (fun NN hNN => ?_) (fun ρ hρ => ?_)
  · have hNN := hNN _ rfl
    symm_saturate
    refine ⟨p, row, lot, counts, rfl, hc, ?_⟩
    rw [false_eq hc hs]
    cases hb : rightB row lot counts with
    | true =>
      rw [hb] at hNN
      rw [if_pos rfl]
      symm_saturate
      refine kept_go (kT [] (by decide)) ?_
      symm_saturate
      exact hNN
    | false =>
      have hle := good_le hc hs hb
      rw [hb] at hNN
      rw [if_neg (by simp)]
      symm_saturate
      refine kept_go (kT _ hgl) ?_
      symm_saturate
      refine ⟨p, row, lot, rfl, hk, ?_⟩
      symm_saturate
      refine cond_is (d := false) (decide_eq_false (by omega)) ?_
      symm_saturate
      exact hNN
  subst hρ
  refine seq_P (fun ρ => ρ = [some (.fz (.scr ns)), some (.fz (.hnd a c)), some (.fz d), some (.fz (.int p)), some (.fz (nT lot)), some (.fz (nT row)), some (.fz (nT (tallyL row lot))), some (.fz (nT counts)), some (.fz (nT (strangeL row lot))), some (.fz (.bool (rightB row lot counts))), some (.fz (nL (askedL p row lot))), some (.fz (nL (goodL p row lot counts))), r12, r13, r14, r15, r16, r17, r18, r19]) (fun NN hNN => ?_) (fun ρ hρ => ?_)
  · have hNN := hNN _ rfl
    cases hb : rightB row lot counts with
    | true =>
      have hga := good_all hc hs hb
      rw [hb] at hNN
      symm_saturate
      refine cond_is (d := false) (by rw [hga]; simp) ?_
      symm_saturate
      exact hNN
    | false =>
      rw [hb] at hNN
      symm_saturate
      exact hNN
  subst hρ
  rw [seqW_s]
  symm_saturate
  try simp only [hold_ap, hold2_ap]
  rw [seqW_s]
  symm_saturate
  refine ⟨⟨by omega, by omega⟩, ?_⟩
  rw [rgD_map]
  have hzl : (lot.zip counts).length = lot.length := by rw [List.length_zip]; omega
  refine for_ints (fun k : Nat => D.int (k : Nat)) (List.range lot.length) (fun j ρ => ∃ r16, ρ = [some (.fz (.scr ns)), some (.fz (.hnd a c)), some (.fz d), some (.fz (.int p)), some (.fz (nT lot)), some (.fz (nT row)), some (.fz (nT (tallyL row lot))), some (.fz (nT counts)), some (.fz (nT (strangeL row lot))), some (.fz (.bool (rightB row lot counts))), some (.fz (nL (askedL p row lot))), some (.fz (nL (goodL p row lot counts))), r12, r13, r14, some (.fz (nL (((lot.zip counts).take j).flatMap fun q => List.replicate q.2.toNat q.1))), r16, r17, r18, r19] ∧ (((lot.zip counts).take j).flatMap fun q => List.replicate q.2.toNat q.1).length ≤ j * 23) ⟨_, rfl, Nat.zero_le _⟩ (fun j j' ρ hd ⟨r16, hr, hfl⟩ => ?_) (fun ρ ⟨r16, hr, hfl⟩ => ?_)
  · subst hr
    have hjl := lt_of_some hd
    rw [List.length_range] at hjl
    rw [List.getElem?_range hjl] at hd
    cases hd
    have hlj : lot[j]? = some (lot.getD j 0) := by rw [List.getD_eq_getElem?_getD, List.getElem?_eq_getElem hjl]; rfl
    have hcj : counts[j]? = some (counts.getD j 0) := by rw [List.getD_eq_getElem?_getD, List.getElem?_eq_getElem (by omega)]; rfl
    have hcr := hc.c _ (List.mem_of_getElem? hcj)
    have hzj : (lot.zip counts)[j]? = some (lot.getD j 0, counts.getD j 0) := by
      rw [List.getElem?_zip_eq_some]; exact ⟨hlj, hcj⟩
    have es : (((lot.zip counts).take (j + 1)).flatMap fun q => List.replicate q.2.toNat q.1) = (((lot.zip counts).take j).flatMap fun q => List.replicate q.2.toNat q.1) ++ List.replicate (counts.getD j 0).toNat (lot.getD j 0) := by
      rw [getElem?_snoc _ _ hzj, List.flatMap_append]; simp
    rw [es]
    generalize (((lot.zip counts).take j).flatMap fun q => List.replicate q.2.toNat q.1) = S at hfl ⊢
    refine ⟨_, rfl, fun nxt hn => ?_⟩
    symm_saturate
    rw [atI_ints _ hjl]
    symm_saturate
    rw [atI_ints _ (by omega)]
    symm_saturate
    rw [rep_unit, Nat.one_mul, List.length_replicate]
    refine ⟨⟨by omega, by omega, by omega⟩, by omega, ?_⟩
    have e2 : nL (S ++ List.replicate (counts.getD j 0).toNat (lot.getD j 0)) = .list (S.map D.int ++ List.replicate (counts.getD j 0).toNat (.int (lot.getD j 0))) := by
      unfold nL; rw [List.map_append, List.map_replicate]
    rw [e2] at hn
    exact hn _ ⟨_, rfl, by rw [List.length_append, List.length_replicate]; omega⟩
  subst hr
  rw [List.length_range, ← hzl, List.take_length] at hfl ⊢
  rw [show ((lot.zip counts).flatMap fun q => List.replicate q.2.toNat q.1) = spreadL lot counts from rfl] at hfl ⊢
  have hsi : InR p (spreadL lot counts) := fun x hx => by
    unfold spreadL at hx
    obtain ⟨q, hq, hx⟩ := List.mem_flatMap.mp hx
    rw [List.eq_of_mem_replicate hx]
    exact hl1 _ (List.of_mem_zip hq).1
  try simp only [hold_ap, hold2_ap]
  symm_saturate
  by_cases hln : (spreadL lot counts).length = row.length
  · refine cond_is (d := true) (by rw [hln]; simp) ?_
    have h2 : Two p row (spreadL lot counts) := ⟨hp, hr1, hsi, by omega, hln⟩
    (symm_saturate; (try simp only [hold_ap, hold2_ap]); (try rw [seqW_s]); symm_saturate)
    refine ⟨p, row, _, rfl, h2, ?_⟩
    symm_saturate
    try simp only [hold_ap, hold2_ap]
    symm_saturate
    refine ⟨sortP_ints row (by omega), ?_⟩
    rw [sortD_ints]
    symm_saturate
    refine ⟨sortP_ints _ (by omega), ?_⟩
    rw [sortD_ints]
    symm_saturate
    rw [eqv_nL]
    refine ⟨⟨cm_nL _, cm_nL _⟩, ?_⟩
    refine cond_is (d := false) (by simp) ?_
    symm_saturate
    cases hsm : decide (srtI row = srtI (spreadL lot counts)) with
    | true =>
      symm_saturate
      refine ⟨p, row, _, rfl, h2, ?_⟩
      rw [same_points (p := p) (by omega) (of_decide_eq_true hsm)]
      symm_saturate
      refine cond_is (d := false) (by rw [rangeI_len]; simp; omega) ?_
      symm_saturate
      cases hb : rightB row lot counts with
      | true => symm_saturate; exact hn _ ⟨_, _, _, _, _, _, _, _, _, _, _, _, _, _, _, _, _, _, rfl⟩
      | false => symm_saturate; exact hn _ ⟨_, _, _, _, _, _, _, _, _, _, _, _, _, _, _, _, _, _, rfl⟩
    | false =>
      symm_saturate
      cases hb : rightB row lot counts with
      | true =>
        rw [decide_eq_true (right_same hc hb)] at hsm
        cases hsm
      | false => symm_saturate; exact hn _ ⟨_, _, _, _, _, _, _, _, _, _, _, _, _, _, _, _, _, _, rfl⟩
  · refine cond_is (d := false) (by simp; omega) ?_
    symm_saturate
    exact hn _ ⟨_, _, _, _, _, _, _, _, _, _, _, _, _, _, _, _, _, _, rfl⟩
end LW

set_option Elab.async false
set_option linter.all false
set_option maxRecDepth 100000
set_option maxHeartbeats 4000000
namespace LW
open PySem PySem.Spec PyProof.Rows L2 DL
variable [TabsC] [KnOn]
section
variable {P : Program} {w : World} {K : PySem.W.Frag} {mg : Str → Option Value} {base : Heap} {CA : String → Addr} {f : Addr}
abbrev st__law_draw : Stmt := top 54
abbrev N__law_draw : List Str := ["hand", "many", "cell", "digit", "number"]
theorem sc__law_draw : FnScope N__law_draw ["hand", "many"] (defScope st__law_draw) := ⟨rfl, rfl, rfl, by decide +kernel, rfl, by decide +kernel, by decide +kernel⟩
theorem der__law_draw (B : Bl mg) (cdv : Value) (A : Around) (outer : List Env) (s : Shared) (H : Hp) (E : XK) : PSs (cxOf (L2.CX P w) P w K mg base N__law_draw "_law_draw" (defScope st__law_draw) f cdv A outer s H E) (defBody st__law_draw) (drawT K) := by
  have nd := sc__law_draw.nd
  exact (pss_cons (ps_if (PW.pt (pw_and (pt_cmpR op_eq (pe_ix ix_seq (pv _) pe_int (fun _ _ => rfl)) pe_int (nomark _)) (pw_and1 (pt_cmpR op_lt (pe_ix ix_seq (pv _) pe_int (fun _ _ => rfl)) (pe_callB call_len rfl B.len rfl (pa_cons (pe_ix ix_seq (pv _) pe_int (fun _ _ => rfl)) pa_nil) (by decide)) (nomark _))))) (pss_cons (ps_set nd rfl (.inl rfl) (pe_ix ix_seq (pe_ix ix_seq (pv _) pe_int (fun _ _ => rfl)) (pe_ix ix_seq (pv _) pe_int (fun _ _ => rfl)) (fun _ _ => rfl)))
    (pss_cons (ps_asg (pe_op op_add (pe_ix ix_seq (pv _) pe_int (fun _ _ => rfl)) pe_int) (pg_sub (pv _) pe_int set_list))
    (pss_cons (ps_asg (pe_op op_mod (pe_callTy call_int1 rfl B.int rfl (pa_cons (pe_op op_add (pe_op op_add (pe_op op_mul (pe_ix ix_seq (pv _) pe_int (fun _ _ => rfl)) pe_int) (pv _)) pe_int) pa_nil) (by decide)) pe_int) (pg_sub (pv _) pe_int set_list))
    (pss_one (ps_if (pt_cmpR op_ge (pv _) (pe_op op_pow pe_int pe_int) (nomark _)) (pss_one (ps_asg (pv _) (pg_sub (pv _) pe_int set_list))) pss_nil))))) pss_nil)
    (pss_cons (ps_if (pt_cmpR op_gt (pe_ix ix_seq (pv _) pe_int (fun _ _ => rfl)) pe_int (nomark _)) (pss_cons (ps_set nd rfl (.inl rfl) (pe_op op_mod (pe_callTy call_int1 rfl B.int rfl (pa_cons (pe_ix ix_seq (pv _) pe_int (fun _ _ => rfl)) pa_nil) (by decide)) (pv _)))
    (pss_cons (ps_asg (pe_op op_fdiv (pe_ix ix_seq (pv _) pe_int (fun _ _ => rfl)) (pv _)) (pg_sub (pv _) pe_int set_list))
    (pss_one (ps_ret (pv _))))) pss_nil)
    (pss_cons (ps_asg (pe_op op_add (pe_ix ix_seq (pv _) pe_int (fun _ _ => rfl)) pe_int) (pg_sub (pv _) pe_int set_list))
    (pss_cons (ps_set nd rfl (.inl rfl) (pe_op op_mod (pe_callTy call_int1 rfl B.int rfl (pa_cons (pe_op op_mul (pe_callTy call_int1 rfl B.int rfl (pa_cons (pe_op op_add (pe_ix ix_seq (pv _) pe_int (fun _ _ => rfl)) (pe_op op_mul pe_int (pe_ix ix_seq (pv _) pe_int (fun _ _ => rfl)))) pa_nil) (by decide)) pe_int) pa_nil) (by decide)) pe_int))
    (pss_cons (ps_set nd rfl (.inl rfl) (pe_op op_mod (pe_callTy call_int1 rfl B.int rfl (pa_cons (pe_op op_mul (pv _) (pe_op op_add (pe_op op_fdiv (pv _) pe_int) pe_int)) pa_nil) (by decide)) pe_int))
    (pss_cons (ps_set nd rfl (.inl rfl) (pe_op op_mod (pe_callTy call_int1 rfl B.int rfl (pa_cons (pe_op op_mul (pv _) (pe_op op_add (pe_op op_fdiv (pv _) pe_int) pe_int)) pa_nil) (by decide)) pe_int))
    (pss_one (ps_ret (pe_op op_mod (pe_callTy call_int1 rfl B.int rfl (pa_cons (pe_op op_fdiv (pv _) pe_int) pa_nil) (by decide)) (pv _))))))))))
theorem dfn__law_draw (B : Bl mg) {fd : FuncData} (F : Fun K "_law_draw" "_law_draw" st__law_draw f fd) (hm : mg "_law_draw" = some (.ref f)) (hb : Binds K fd ["hand", "many"] []) : DFn P w K mg base CA 1 "_law_draw" S_draw :=
  draw_dfn F sc__law_draw hm hb rfl rfl fun cdv A outer s H E _ => der__law_draw B cdv A outer s H E

theorem der__law_gcd (B : Bl mg) (cdv : Value) (A : Around) (outer : List Env) (s : Shared) (H : Hp) (E : XK) (hr : Room 0 (A.deeper (envOfC "_law_gcd" (defScope st__law_gcd) s.heap.objs.size f cdv)))
    (C : Ctx (cxOf (L2.CX P w) P w K mg base N__law_gcd "_law_gcd" (defScope st__law_gcd) f cdv A outer s H E) CA (XWof CA E)) : SDs (cxOf (L2.CX P w) P w K mg base N__law_gcd "_law_gcd" (defScope st__law_gcd) f cdv A outer s H E) (XWof CA E) (defBody st__law_gcd) W__law_gcd := by
  have nd := sc__law_gcd.nd
  exact (sds_cons (sd_forL (T := (.nm 2)) (g := (gName 2)) (passes_of rfl) rfl (id_rng1 rfl B.range (ad_cons ed_int ad_nil)) (dn 2 nd)
    (sds_cons (sd_if false (td_cmp (od_eq hr.units) (dv 1) ed_int (nomark _)) (sds_one (sd_ret (dv 0))) sds_nil)
    (sds_one (d_par false 0 1 nd (ad_cons (dv 1) (ad_cons (ed_bin od_mod (ed_bltT cd_int rfl B.int (by decide +kernel) (ad_cons (dv 0) ad_nil)) (dv 1)) ad_nil))))))
    (sds_one (sd_ret (dv 0))))
theorem der__law_frac (B : Bl mg) (G__law_gcd : DFn P w K mg base CA 1 "_law_gcd" S__law_gcd) (cdv : Value) (A : Around) (outer : List Env) (s : Shared) (H : Hp) (E : XK) (hr : Room 1 (A.deeper (envOfC "_law_frac" (defScope st__law_frac) s.heap.objs.size f cdv)))
    (C : Ctx (cxOf (L2.CX P w) P w K mg base N__law_frac "_law_frac" (defScope st__law_frac) f cdv A outer s H E) CA (XWof CA E)) : SDs (cxOf (L2.CX P w) P w K mg base N__law_frac "_law_frac" (defScope st__law_frac) f cdv A outer s H E) (XWof CA E) (defBody st__law_frac) W__law_frac := by
  have nd := sc__law_frac.nd
  exact (sds_cons (d_set false 2 nd (ed_call G__law_gcd C (hr.mono (by decide)) rfl (ad_cons (ed_blt cd_abs rfl B.abs (by decide +kernel) (ad_cons (dv 0) ad_nil)) (ad_cons (dv 1) ad_nil))))
    (sds_one (sd_ret (ed_tup (ad_cons (ed_bin od_fdivA (dv 0) (dv 2)) (ad_cons (ed_bin od_fdivA (dv 1) (dv 2)) ad_nil))))))
theorem der__law_hand (B : Bl mg) (cdv : Value) (A : Around) (outer : List Env) (s : Shared) (H : Hp) (E : XK) (hr : Room 0 (A.deeper (envOfC "_law_hand" (defScope st__law_hand) s.heap.objs.size f cdv)))
    (C : Ctx (cxOf (L2.CX P w) P w K mg base N__law_hand "_law_hand" (defScope st__law_hand) f cdv A outer s H E) CA (XWof CA E)) : SDs (cxOf (L2.CX P w) P w K mg base N__law_hand "_law_hand" (defScope st__law_hand) f cdv A outer s H E) (XWof CA E) (defBody st__law_hand) W__law_hand := by
  have nd := sc__law_hand.nd
  exact (sds_cons (d_setLc false 1 (own := [("cell", 2)]) (T := (.nm 2)) (g := (gName 2)) rfl nd (id_seq (ed_slice (dv 0) od_none (od_some ed_int))) (blkOk_by (N := N__law_hand) (sc := defScope st__law_hand) (by decide +kernel)) (by simp [Tgt.slots, Tgt.slotss]) (fun _ _ _ _ _ => (dn 2 nd)) (fun _ _ _ _ _ => ts_nil) (fun _ _ _ _ _ => (ed_blt cd_abs rfl B.abs (by decide +kernel) (ad_cons (ed_bltT cd_int rfl B.int (by decide +kernel) (ad_cons (dv 2) ad_nil)) ad_nil))))
    (sds_one (sd_retH (fd_lst (ad_cons (dv 1) (ad_cons ed_int (ad_cons ed_int (ad_cons (ed_bin od_add ed_int (ed_bin od_mulA ed_int (ed_blt cd_len rfl B.len (by decide +kernel) (ad_cons (dv 1) ad_nil)))) (ad_cons ed_int ad_nil)))))))))
theorem der__law_kept (B : Bl mg) {S__law_kept : SF} {kk : Nat} (G__law_kept : DFn P w K mg base CA kk "_law_kept" S__law_kept) (cdv : Value) (A : Around) (outer : List Env) (s : Shared) (H : Hp) (E : XK) (hr : Room kk (A.deeper (envOfC "_law_kept" (defScope st__law_kept) s.heap.objs.size f cdv)))
    (C : Ctx (cxOf (L2.CX P w) P w K mg base N__law_kept "_law_kept" (defScope st__law_kept) f cdv A outer s H E) CA (XWof CA E)) : SDs (cxOf (L2.CX P w) P w K mg base N__law_kept "_law_kept" (defScope st__law_kept) f cdv A outer s H E) (XWof CA E) (defBody st__law_kept) (W__law_kept S__law_kept) := by
  have nd := sc__law_kept.nd
  exact (sds_cons (sd_if false (TWD.td (tw_or (td_of (ed_blt cd_isi rfl B.isinstance (by decide +kernel) (ad_cons (dv 1) (ad_cons (ed_ty rfl B.tuple (by decide +kernel)) ad_nil)))) (tw_or1 (td_of (ed_blt cd_isi rfl B.isinstance (by decide +kernel) (ad_cons (dv 1) (ad_cons (ed_ty rfl B.list (by decide +kernel)) ad_nil))))))) (sds_cons (sd_if false (TWD.td (tw_or (td_cmp (od_ne hr.units) (ed_blt cd_isi rfl B.isinstance (by decide +kernel) (ad_cons (dv 0) (ad_cons (ed_ty rfl B.tuple (by decide +kernel)) ad_nil))) (ed_blt cd_isi rfl B.isinstance (by decide +kernel) (ad_cons (dv 1) (ad_cons (ed_ty rfl B.tuple (by decide +kernel)) ad_nil))) (nomark _)) (tw_or1 (td_cmp (od_ne hr.units) (ed_blt cd_isi rfl B.isinstance (by decide +kernel) (ad_cons (dv 0) (ad_cons (ed_ty rfl B.list (by decide +kernel)) ad_nil))) (ed_blt cd_isi rfl B.isinstance (by decide +kernel) (ad_cons (dv 1) (ad_cons (ed_ty rfl B.list (by decide +kernel)) ad_nil))) (nomark _))))) (sds_one (sd_ret ed_bl)) sds_nil)
    (sds_one (sd_ret (ed_and (ed_cmp (od_eq hr.units) (ed_blt cd_len rfl B.len (by decide +kernel) (ad_cons (dv 0) ad_nil)) (ed_blt cd_len rfl B.len (by decide +kernel) (ad_cons (dv 1) ad_nil)) (nomark _)) (ed_one (ed_blt (cd_all rfl) rfl B.all (by decide +kernel) (ad_cons (FD.ed (fd_lc (own := [("at", 2)]) (T := (.nm 2)) (g := (gName 2)) rfl nd (id_rng1 rfl B.range (ad_cons (ed_blt cd_len rfl B.len (by decide +kernel) (ad_cons (dv 1) ad_nil)) ad_nil)) (blkOk_by (N := N__law_kept) (sc := defScope st__law_kept) (by decide +kernel)) (by simp [Tgt.slots, Tgt.slotss]) (fun _ _ _ _ _ => (dn 2 nd)) (fun _ _ _ _ _ => ts_nil) (fun _ _ _ _ _ => (ed_call G__law_kept (Ctx.no rfl) hr rfl (ad_cons (ed_ix (dv 0) (dv 2) (fun _ _ => rfl)) (ad_cons (ed_ix (dv 1) (dv 2) (fun _ _ => rfl)) ad_nil)))))) ad_nil))))))) sds_nil)
    (sds_cons (sd_if false (td_cmp od_is (dv 1) ed_non (nomark _)) (sds_one (sd_ret (ed_cmp od_is (dv 0) ed_non (nomark _)))) sds_nil)
    (sds_cons (sd_if false (td_of (ed_blt cd_isi rfl B.isinstance (by decide +kernel) (ad_cons (dv 1) (ad_cons (ed_ty rfl B.bool (by decide +kernel)) ad_nil)))) (sds_one (sd_ret (ed_if (td_of (dv 1)) (ed_cmp od_is (dv 0) ed_bl (nomark _)) (ed_cmp od_is (dv 0) ed_bl (nomark _))))) sds_nil)
    (sds_cons (sd_if false (td_of (ed_blt cd_isi rfl B.isinstance (by decide +kernel) (ad_cons (dv 1) (ad_cons (ed_ty rfl B.int (by decide +kernel)) ad_nil)))) (sds_one (sd_ret (ed_and (ed_blt cd_isi rfl B.isinstance (by decide +kernel) (ad_cons (dv 0) (ad_cons (ed_ty rfl B.int (by decide +kernel)) ad_nil))) (ed_and (ed_not (ed_blt cd_isi rfl B.isinstance (by decide +kernel) (ad_cons (dv 0) (ad_cons (ed_ty rfl B.bool (by decide +kernel)) ad_nil)))) (ed_one (ed_cmp (od_eq hr.units) (dv 0) (dv 1) (nomark _))))))) sds_nil)
    (sds_one (sd_ret (ed_and (ed_blt cd_isi rfl B.isinstance (by decide +kernel) (ad_cons (dv 0) (ad_cons (ed_ty rfl B.str (by decide +kernel)) ad_nil))) (ed_one (ed_cmp (od_eq hr.units) (dv 0) (dv 1) (nomark _))))))))))
theorem der__law_mixed (B : Bl mg) (G__law_draw : DFn P w K mg base CA 1 "_law_draw" S__law_draw) (cdv : Value) (A : Around) (outer : List Env) (s : Shared) (H : Hp) (E : XK) (hr : Room 1 (A.deeper (envOfC "_law_mixed" (defScope st__law_mixed) s.heap.objs.size f cdv)))
    (C : Ctx (cxOf (L2.CX P w) P w K mg base N__law_mixed "_law_mixed" (defScope st__law_mixed) f cdv A outer s H E) CA (XWof CA E)) : SDs (cxOf (L2.CX P w) P w K mg base N__law_mixed "_law_mixed" (defScope st__law_mixed) f cdv A outer s H E) (XWof CA E) (defBody st__law_mixed) W__law_mixed := by
  have nd := sc__law_mixed.nd
  exact (sds_cons (d_parOO false 2 3 nd (fd_bltT cf_list rfl B.list (by decide +kernel) (ad_cons (dv 1) ad_nil)) (fd_lst ad_nil))
    (sds_cons (sd_while true (passes_of rfl) (td_cmp od_gt (ed_blt cd_len rfl B.len (by decide +kernel) (ad_cons (dv 2) ad_nil)) ed_int (nomark _)) (sds_one (sd_appPop (i := 3) (j := 2) true (by decide) (ed_call G__law_draw C (hr.mono (by decide)) rfl (ad_cons (dv 0) (ad_cons (ed_blt cd_len rfl B.len (by decide +kernel) (ad_cons (dv 2) ad_nil)) ad_nil))))))
    (sds_one (sd_ret (dv 3)))))
theorem der__law_numbers (B : Bl mg) (G__law_draw : DFn P w K mg base CA 1 "_law_draw" S__law_draw) (cdv : Value) (A : Around) (outer : List Env) (s : Shared) (H : Hp) (E : XK) (hr : Room 1 (A.deeper (envOfC "_law_numbers" (defScope st__law_numbers) s.heap.objs.size f cdv)))
    (C : Ctx (cxOf (L2.CX P w) P w K mg base N__law_numbers "_law_numbers" (defScope st__law_numbers) f cdv A outer s H E) CA (XWof CA E)) : SDs (cxOf (L2.CX P w) P w K mg base N__law_numbers "_law_numbers" (defScope st__law_numbers) f cdv A outer s H E) (XWof CA E) (defBody st__law_numbers) W__law_numbers := by
  have nd := sc__law_numbers.nd
  exact (sds_one (sd_ret (ed_bltT cd_tuple rfl B.tuple (by decide +kernel) (ad_cons (FD.ed (fd_lc (own := [("step", 3)]) (T := (.nm 3)) (g := (gName 3)) rfl nd (id_rng1 rfl B.range (ad_cons (dv 2) ad_nil)) (blkOk_by (N := N__law_numbers) (sc := defScope st__law_numbers) (by decide +kernel)) (by simp [Tgt.slots, Tgt.slotss]) (fun _ _ _ _ _ => (dn 3 nd)) (fun _ _ _ _ _ => ts_nil) (fun _ _ _ _ _ => (ed_call G__law_draw (Ctx.no rfl) (hr.mono (by decide)) rfl (ad_cons (dv 0) (ad_cons (dv 1) ad_nil)))))) ad_nil))))
theorem der__law_some (B : Bl mg) (G__law_draw : DFn P w K mg base CA 1 "_law_draw" S__law_draw) (cdv : Value) (A : Around) (outer : List Env) (s : Shared) (H : Hp) (E : XK) (hr : Room 1 (A.deeper (envOfC "_law_some" (defScope st__law_some) s.heap.objs.size f cdv)))
    (C : Ctx (cxOf (L2.CX P w) P w K mg base N__law_some "_law_some" (defScope st__law_some) f cdv A outer s H E) CA (XWof CA E)) : SDs (cxOf (L2.CX P w) P w K mg base N__law_some "_law_some" (defScope st__law_some) f cdv A outer s H E) (XWof CA E) (defBody st__law_some) W__law_some := by
  have nd := sc__law_some.nd
  exact (sds_one (sd_ret (ed_ix (dv 1) (ed_call G__law_draw C (hr.mono (by decide)) rfl (ad_cons (dv 0) (ad_cons (ed_blt cd_len rfl B.len (by decide +kernel) (ad_cons (dv 1) ad_nil)) ad_nil))) (fun _ _ => rfl))))
theorem der__law_inverse (B : Bl mg) (cdv : Value) (A : Around) (outer : List Env) (s : Shared) (H : Hp) (E : XK) (hr : Room 0 (A.deeper (envOfC "_law_inverse" (defScope st__law_inverse) s.heap.objs.size f cdv)))
    (C : Ctx (cxOf (L2.CX P w) P w K mg base N__law_inverse "_law_inverse" (defScope st__law_inverse) f cdv A outer s H E) CA (XWof CA E)) : SDs (cxOf (L2.CX P w) P w K mg base N__law_inverse "_law_inverse" (defScope st__law_inverse) f cdv A outer s H E) (XWof CA E) (defBody st__law_inverse) W__law_inverse := by
  have nd := sc__law_inverse.nd
  exact (sds_one (sd_ret (ed_ix (FD.ed (fd_lc (own := [("other", 2)]) (T := (.nm 2)) (g := (gName 2)) rfl nd (id_rng1 rfl B.range (ad_cons (dv 0) ad_nil)) (blkOk_by (N := N__law_inverse) (sc := defScope st__law_inverse) (by decide +kernel)) (by simp [Tgt.slots, Tgt.slotss]) (fun _ _ _ _ _ => (dn 2 nd)) (fun _ _ _ _ _ => (ts_one (td_cmp (od_eq hr.units) (ed_bin od_mod (ed_bltT cd_int rfl B.int (by decide +kernel) (ad_cons (ed_bin od_mulA (dv 1) (dv 2)) ad_nil)) (dv 0)) ed_int (nomark _)))) (fun _ _ _ _ _ => (dv 2)))) ed_int (fun _ _ => rfl))))
theorem der__law_sums (B : Bl mg) (G__law_inverse : DFn P w K mg base CA 1 "_law_inverse" S__law_inverse) (cdv : Value) (A : Around) (outer : List Env) (s : Shared) (H : Hp) (E : XK) (hr : Room 1 (A.deeper (envOfC "_law_sums" (defScope st__law_sums) s.heap.objs.size f cdv)))
    (C : Ctx (cxOf (L2.CX P w) P w K mg base N__law_sums "_law_sums" (defScope st__law_sums) f cdv A outer s H E) CA (XWof CA E)) : SDs (cxOf (L2.CX P w) P w K mg base N__law_sums "_law_sums" (defScope st__law_sums) f cdv A outer s H E) (XWof CA E) (defBody st__law_sums) W__law_sums := by
  have nd := sc__law_sums.nd
  exact (sds_cons (d_set false 5 nd (ed_blt (cd_sum rfl) rfl B.sum (by decide +kernel) (ad_cons (FD.ed (fd_lc (own := [("part", 7)]) (T := (.nm 7)) (g := (gName 7)) rfl nd (id_seq (dv 1)) (blkOk_by (N := N__law_sums) (sc := defScope st__law_sums) (by decide +kernel)) (by simp [Tgt.slots, Tgt.slotss]) (fun _ _ _ _ _ => (dn 7 nd)) (fun _ _ _ _ _ => ts_nil) (fun _ _ _ _ _ => (ed_call G__law_inverse (Ctx.no rfl) (hr.mono (by decide)) rfl (ad_cons (dv 0) (ad_cons (ed_bin od_mod (ed_bltT cd_int rfl B.int (by decide +kernel) (ad_cons (ed_bin od_sub (dv 4) (dv 7)) ad_nil)) (dv 0)) ad_nil)))))) ad_nil)))
    (sds_cons (d_set false 6 nd (ed_blt (cd_sum rfl) rfl B.sum (by decide +kernel) (ad_cons (FD.ed (fd_lc (own := [("at", 8)]) (T := (.nm 8)) (g := (gName 8)) rfl nd (id_rng1 rfl B.range (ad_cons (ed_blt cd_len rfl B.len (by decide +kernel) (ad_cons (dv 2) ad_nil)) ad_nil)) (blkOk_by (N := N__law_sums) (sc := defScope st__law_sums) (by decide +kernel)) (by simp [Tgt.slots, Tgt.slotss]) (fun _ _ _ _ _ => (dn 8 nd)) (fun _ _ _ _ _ => ts_nil) (fun _ _ _ _ _ => (ed_bin od_mulA (ed_ix (dv 3) (dv 8) (fun _ _ => rfl)) (ed_call G__law_inverse (Ctx.no rfl) (hr.mono (by decide)) rfl (ad_cons (dv 0) (ad_cons (ed_bin od_mod (ed_bltT cd_int rfl B.int (by decide +kernel) (ad_cons (ed_bin od_sub (dv 4) (ed_ix (dv 2) (dv 8) (fun _ _ => rfl))) ad_nil)) (dv 0)) ad_nil))))))) ad_nil)))
    (sds_one (sd_ret (ed_tup (ad_cons (ed_bin od_mod (ed_bltT cd_int rfl B.int (by decide +kernel) (ad_cons (dv 5) ad_nil)) (dv 0)) (ad_cons (ed_bin od_mod (ed_bltT cd_int rfl B.int (by decide +kernel) (ad_cons (dv 6) ad_nil)) (dv 0)) ad_nil)))))))
theorem der_is_integer (B : Bl mg) (cdv : Value) (A : Around) (outer : List Env) (s : Shared) (H : Hp) (E : XK) (hr : Room 0 (A.deeper (envOfC "is_integer" (defScope st_is_integer) s.heap.objs.size f cdv)))
    (C : Ctx (cxOf (L2.CX P w) P w K mg base N_is_integer "is_integer" (defScope st_is_integer) f cdv A outer s H E) CA (XWof CA E)) : SDs (cxOf (L2.CX P w) P w K mg base N_is_integer "is_integer" (defScope st_is_integer) f cdv A outer s H E) (XWof CA E) (defBody st_is_integer) W_is_integer := by
  have nd := sc_is_integer.nd
  exact (sds_one (sd_ret (ed_and (ed_blt cd_isi rfl B.isinstance (by decide +kernel) (ad_cons (dv 0) (ad_cons (ed_ty rfl B.int (by decide +kernel)) ad_nil))) (ed_one (ed_not (ed_blt cd_isi rfl B.isinstance (by decide +kernel) (ad_cons (dv 0) (ad_cons (ed_ty rfl B.bool (by decide +kernel)) ad_nil))))))))
theorem der_is_between (B : Bl mg) (G_is_integer : DFn P w K mg base CA 1 "is_integer" S_is_integer) (cdv : Value) (A : Around) (outer : List Env) (s : Shared) (H : Hp) (E : XK) (hr : Room 1 (A.deeper (envOfC "is_between" (defScope st_is_between) s.heap.objs.size f cdv)))
    (C : Ctx (cxOf (L2.CX P w) P w K mg base N_is_between "is_between" (defScope st_is_between) f cdv A outer s H E) CA (XWof CA E)) : SDs (cxOf (L2.CX P w) P w K mg base N_is_between "is_between" (defScope st_is_between) f cdv A outer s H E) (XWof CA E) (defBody st_is_between) W_is_between := by
  have nd := sc_is_between.nd
  exact (sds_one (sd_ret (ed_and (ed_call G_is_integer C (hr.mono (by decide)) rfl (ad_cons (dv 0) ad_nil)) (ed_one (ed_chain od_le od_le (dv 1) (dv 0) (dv 2))))))
theorem der_is_number (B : Bl mg) (G_is_between : DFn P w K mg base CA 2 "is_between" S_is_between) (cdv : Value) (A : Around) (outer : List Env) (s : Shared) (H : Hp) (E : XK) (hr : Room 2 (A.deeper (envOfC "is_number" (defScope st_is_number) s.heap.objs.size f cdv)))
    (C : Ctx (cxOf (L2.CX P w) P w K mg base N_is_number "is_number" (defScope st_is_number) f cdv A outer s H E) CA (XWof CA E)) : SDs (cxOf (L2.CX P w) P w K mg base N_is_number "is_number" (defScope st_is_number) f cdv A outer s H E) (XWof CA E) (defBody st_is_number) W_is_number := by
  have nd := sc_is_number.nd
  exact (sds_one (sd_ret (ed_call G_is_between C (hr.mono (by decide)) rfl (ad_cons (dv 1) (ad_cons ed_int (ad_cons (ed_bin od_sub (dv 0) ed_int) ad_nil))))))
theorem der_is_numbers (B : Bl mg) (G_is_number : DFn P w K mg base CA 3 "is_number" S_is_number) (Cn : Consts K mg) (cdv : Value) (A : Around) (outer : List Env) (s : Shared) (H : Hp) (E : XK) (hr : Room 3 (A.deeper (envOfC "is_numbers" (defScope st_is_numbers) s.heap.objs.size f cdv)))
    (C : Ctx (cxOf (L2.CX P w) P w K mg base N_is_numbers "is_numbers" (defScope st_is_numbers) f cdv A outer s H E) CA (XWof CA E)) : SDs (cxOf (L2.CX P w) P w K mg base N_is_numbers "is_numbers" (defScope st_is_numbers) f cdv A outer s H E) (XWof CA E) (defBody st_is_numbers) W_is_numbers := by
  have nd := sc_is_numbers.nd
  exact (sds_one (sd_ret (ed_and (ed_blt cd_isi rfl B.isinstance (by decide +kernel) (ad_cons (dv 1) (ad_cons (ed_ty rfl B.tuple (by decide +kernel)) ad_nil))) (ed_and (ed_cmp od_le (ed_blt cd_len rfl B.len (by decide +kernel) (ad_cons (dv 1) ad_nil)) (ed_gl Cn.cMOST_LONG_checklots rfl) (nomark _)) (ed_one (ed_blt (cd_all rfl) rfl B.all (by decide +kernel) (ad_cons (FD.ed (fd_lc (own := [("one", 2)]) (T := (.nm 2)) (g := (gName 2)) rfl nd (id_seq (dv 1)) (blkOk_by (N := N_is_numbers) (sc := defScope st_is_numbers) (by decide +kernel)) (by simp [Tgt.slots, Tgt.slotss]) (fun _ _ _ _ _ => (dn 2 nd)) (fun _ _ _ _ _ => ts_nil) (fun _ _ _ _ _ => (ed_call G_is_number (Ctx.no rfl) (hr.mono (by decide)) rfl (ad_cons (dv 0) (ad_cons (dv 2) ad_nil)))))) ad_nil)))))))
theorem der_is_prime (B : Bl mg) (G_is_between : DFn P w K mg base CA 2 "is_between" S_is_between) (Cn : Consts K mg) (cdv : Value) (A : Around) (outer : List Env) (s : Shared) (H : Hp) (E : XK) (hr : Room 2 (A.deeper (envOfC "is_prime" (defScope st_is_prime) s.heap.objs.size f cdv)))
    (C : Ctx (cxOf (L2.CX P w) P w K mg base N_is_prime "is_prime" (defScope st_is_prime) f cdv A outer s H E) CA (XWof CA E)) : SDs (cxOf (L2.CX P w) P w K mg base N_is_prime "is_prime" (defScope st_is_prime) f cdv A outer s H E) (XWof CA E) (defBody st_is_prime) W_is_prime := by
  have nd := sc_is_prime.nd
  exact (sds_one (sd_ret (ed_and (ed_call G_is_between C (hr.mono (by decide)) rfl (ad_cons (dv 0) (ad_cons ed_int (ad_cons (ed_gl Cn.cMOST_PRIME rfl) ad_nil)))) (ed_one (ed_blt (cd_all rfl) rfl B.all (by decide +kernel) (ad_cons (FD.ed (fd_lc (own := [("number", 1)]) (T := (.nm 1)) (g := (gName 1)) rfl nd (id_rng2 rfl B.range (ad_cons ed_int (ad_cons (dv 0) ad_nil))) (blkOk_by (N := N_is_prime) (sc := defScope st_is_prime) (by decide +kernel)) (by simp [Tgt.slots, Tgt.slotss]) (fun _ _ _ _ _ => (dn 1 nd)) (fun _ _ _ _ _ => ts_nil) (fun _ _ _ _ _ => (ed_cmp (od_ne hr.units) (ed_bin od_mod (dv 0) (dv 1)) ed_int (nomark _))))) ad_nil))))))
theorem der_need_prime (B : Bl mg) (G_is_prime : DFn P w K mg base CA 3 "is_prime" S_is_prime) (Ex_NoPrime : ExcF K mg CA "NoPrime" veBM) (cdv : Value) (A : Around) (outer : List Env) (s : Shared) (H : Hp) (E : XK) (hr : Room 3 (A.deeper (envOfC "need_prime" (defScope st_need_prime) s.heap.objs.size f cdv)))
    (C : Ctx (cxOf (L2.CX P w) P w K mg base N_need_prime "need_prime" (defScope st_need_prime) f cdv A outer s H E) CA (XWof CA E)) : SDs (cxOf (L2.CX P w) P w K mg base N_need_prime "need_prime" (defScope st_need_prime) f cdv A outer s H E) (XWof CA E) (defBody st_need_prime) W_need_prime := by
  have nd := sc_need_prime.nd
  exact (sds_one (sd_if false (td_not (td_of (ed_call G_is_prime C (hr.mono (by decide)) rfl (ad_cons (dv 0) ad_nil)))) (sds_one (sd_raise0 (c := "NoPrime") Ex_NoPrime rfl ctx_def rfl)) sds_nil))
theorem der_need_rows_checklots (B : Bl mg) (G_is_numbers : DFn P w K mg base CA 4 "is_numbers" S_is_numbers) (G_need_prime : DFn P w K mg base CA 4 "need_prime" S_need_prime) (Ex_NoRow : ExcF K mg CA "NoRow" veBM) (cdv : Value) (A : Around) (outer : List Env) (s : Shared) (H : Hp) (E : XK) (hr : Room 4 (A.deeper (envOfC "need_rows" (defScope st_need_rows_checklots) s.heap.objs.size f cdv)))
    (C : Ctx (cxOf (L2.CX P w) P w K mg base N_need_rows_checklots "need_rows" (defScope st_need_rows_checklots) f cdv A outer s H E) CA (XWof CA E)) : SDs (cxOf (L2.CX P w) P w K mg base N_need_rows_checklots "need_rows" (defScope st_need_rows_checklots) f cdv A outer s H E) (XWof CA E) (defBody st_need_rows_checklots) W_need_rows_checklots := by
  have nd := sc_need_rows_checklots.nd
  exact (sds_cons (sd_expr false (ed_call G_need_prime C (hr.mono (by decide)) rfl (ad_cons (dv 0) ad_nil)))
    (sds_cons (sd_if false (td_not (td_of (ed_call G_is_numbers C (hr.mono (by decide)) rfl (ad_cons (dv 0) (ad_cons (dv 1) ad_nil))))) (sds_one (sd_raise0 (c := "NoRow") Ex_NoRow rfl ctx_def rfl)) sds_nil)
    (sds_one (sd_if false (TWD.td (tw_or (td_not (td_of (ed_call G_is_numbers C (hr.mono (by decide)) rfl (ad_cons (dv 0) (ad_cons (dv 2) ad_nil))))) (tw_or1 (td_cmp (od_ne hr.units) (ed_blt cd_len rfl B.len (by decide +kernel) (ad_cons (dv 2) ad_nil)) (ed_blt cd_len rfl B.len (by decide +kernel) (ad_cons (dv 1) ad_nil)) (nomark _))))) (sds_one (sd_raise0 (c := "NoRow") Ex_NoRow rfl ctx_def rfl)) sds_nil))))
theorem der_are_one_lot (B : Bl mg) (G_need_rows_checklots : DFn P w K mg base CA 5 "need_rows_checklots" S_need_rows_checklots) (cdv : Value) (A : Around) (outer : List Env) (s : Shared) (H : Hp) (E : XK) (hr : Room 5 (A.deeper (envOfC "are_one_lot" (defScope st_are_one_lot) s.heap.objs.size f cdv)))
    (C : Ctx (cxOf (L2.CX P w) P w K mg base N_are_one_lot "are_one_lot" (defScope st_are_one_lot) f cdv A outer s H E) CA (XWof CA E)) : SDs (cxOf (L2.CX P w) P w K mg base N_are_one_lot "are_one_lot" (defScope st_are_one_lot) f cdv A outer s H E) (XWof CA E) (defBody st_are_one_lot) W_are_one_lot := by
  have nd := sc_are_one_lot.nd
  exact (sds_cons (sd_expr false (ed_call G_need_rows_checklots C (hr.mono (by decide)) rfl (ad_cons (dv 0) (ad_cons (dv 1) (ad_cons (dv 2) ad_nil)))))
    (sds_one (sd_ret (ed_cmp (od_eq hr.units) (FD.ed (fd_blt (cf_sorted (units65 hr)) rfl B.sorted (by decide +kernel) (ad_cons (dv 1) ad_nil))) (FD.ed (fd_blt (cf_sorted (units65 hr)) rfl B.sorted (by decide +kernel) (ad_cons (dv 2) ad_nil))) (nomark _)))))
theorem der_need_rows_lookups (B : Bl mg) (G_is_number : DFn P w K mg base CA 3 "is_number" S_is_number) (G_need_prime : DFn P w K mg base CA 4 "need_prime" S_need_prime) (Ex_NoRow : ExcF K mg CA "NoRow" veBM) (Cn : Consts K mg) (cdv : Value) (A : Around) (outer : List Env) (s : Shared) (H : Hp) (E : XK) (hr : Room 4 (A.deeper (envOfC "need_rows" (defScope st_need_rows_lookups) s.heap.objs.size f cdv)))
    (C : Ctx (cxOf (L2.CX P w) P w K mg base N_need_rows_lookups "need_rows" (defScope st_need_rows_lookups) f cdv A outer s H E) CA (XWof CA E)) : SDs (cxOf (L2.CX P w) P w K mg base N_need_rows_lookups "need_rows" (defScope st_need_rows_lookups) f cdv A outer s H E) (XWof CA E) (defBody st_need_rows_lookups) W_need_rows_lookups := by
  have nd := sc_need_rows_lookups.nd
  exact (sds_cons (sd_expr false (ed_call G_need_prime C (hr.mono (by decide)) rfl (ad_cons (dv 0) ad_nil)))
    (sds_cons (sd_forL (T := (.nm 3)) (g := (gName 3)) (passes_of rfl) rfl (id_seq (ed_tup (ad_cons (dv 1) (ad_cons (dv 2) ad_nil)))) (dn 3 nd)
    (sds_one (sd_if false (TWD.td (tw_or (td_not (td_of (ed_blt cd_isi rfl B.isinstance (by decide +kernel) (ad_cons (dv 3) (ad_cons (ed_ty rfl B.tuple (by decide +kernel)) ad_nil))))) (tw_or (td_cmp od_gt (ed_blt cd_len rfl B.len (by decide +kernel) (ad_cons (dv 3) ad_nil)) (ed_gl Cn.cMOST_LONG_lookups rfl) (nomark _)) (tw_or1 (td_not (td_of (ed_blt (cd_all rfl) rfl B.all (by decide +kernel) (ad_cons (FD.ed (fd_lc (own := [("x", 4)]) (T := (.nm 4)) (g := (gName 4)) rfl nd (id_seq (dv 3)) (blkOk_by (N := N_need_rows_lookups) (sc := defScope st_need_rows_lookups) (by decide +kernel)) (by simp [Tgt.slots, Tgt.slotss]) (fun _ _ _ _ _ => (dn 4 nd)) (fun _ _ _ _ _ => ts_nil) (fun _ _ _ _ _ => (ed_call G_is_number (Ctx.no rfl) (hr.mono (by decide)) rfl (ad_cons (dv 0) (ad_cons (dv 4) ad_nil)))))) ad_nil)))))))) (sds_one (sd_raise0 (c := "NoRow") Ex_NoRow rfl ctx_def rfl)) sds_nil)))
    (sds_one (sd_if false (td_not (td_of (ed_blt (cd_all rfl) rfl B.all (by decide +kernel) (ad_cons (FD.ed (fd_lc (own := [("at", 5)]) (T := (.nm 5)) (g := (gName 5)) rfl nd (id_rng2 rfl B.range (ad_cons ed_int (ad_cons (ed_blt cd_len rfl B.len (by decide +kernel) (ad_cons (dv 2) ad_nil)) ad_nil))) (blkOk_by (N := N_need_rows_lookups) (sc := defScope st_need_rows_lookups) (by decide +kernel)) (by simp [Tgt.slots, Tgt.slotss]) (fun _ _ _ _ _ => (dn 5 nd)) (fun _ _ _ _ _ => ts_nil) (fun _ _ _ _ _ => (ed_cmp (od_lt hr.units0) (ed_ix (dv 2) (ed_bin od_sub (dv 5) ed_int) (fun _ _ => rfl)) (ed_ix (dv 2) (dv 5) (fun _ _ => rfl)) (nomark _))))) ad_nil)))) (sds_one (sd_raise0 (c := "NoRow") Ex_NoRow rfl ctx_def rfl)) sds_nil))))
theorem der_need_counts (B : Bl mg) (G_is_number : DFn P w K mg base CA 3 "is_number" S_is_number) (G_need_rows_lookups : DFn P w K mg base CA 5 "need_rows_lookups" S_need_rows_lookups) (Ex_NoNumber : ExcF K mg CA "NoNumber" veBM) (cdv : Value) (A : Around) (outer : List Env) (s : Shared) (H : Hp) (E : XK) (hr : Room 5 (A.deeper (envOfC "need_counts" (defScope st_need_counts) s.heap.objs.size f cdv)))
    (C : Ctx (cxOf (L2.CX P w) P w K mg base N_need_counts "need_counts" (defScope st_need_counts) f cdv A outer s H E) CA (XWof CA E)) : SDs (cxOf (L2.CX P w) P w K mg base N_need_counts "need_counts" (defScope st_need_counts) f cdv A outer s H E) (XWof CA E) (defBody st_need_counts) W_need_counts := by
  have nd := sc_need_counts.nd
  exact (sds_cons (sd_expr false (ed_call G_need_rows_lookups C (hr.mono (by decide)) rfl (ad_cons (dv 0) (ad_cons (dv 1) (ad_cons (dv 2) ad_nil)))))
    (sds_one (sd_if false (TWD.td (tw_or (td_not (td_of (ed_blt cd_isi rfl B.isinstance (by decide +kernel) (ad_cons (dv 3) (ad_cons (ed_ty rfl B.tuple (by decide +kernel)) ad_nil))))) (tw_or (td_cmp (od_ne hr.units) (ed_blt cd_len rfl B.len (by decide +kernel) (ad_cons (dv 3) ad_nil)) (ed_blt cd_len rfl B.len (by decide +kernel) (ad_cons (dv 2) ad_nil)) (nomark _)) (tw_or1 (td_not (td_of (ed_blt (cd_all rfl) rfl B.all (by decide +kernel) (ad_cons (FD.ed (fd_lc (own := [("x", 4)]) (T := (.nm 4)) (g := (gName 4)) rfl nd (id_seq (dv 3)) (blkOk_by (N := N_need_counts) (sc := defScope st_need_counts) (by decide +kernel)) (by simp [Tgt.slots, Tgt.slotss]) (fun _ _ _ _ _ => (dn 4 nd)) (fun _ _ _ _ _ => ts_nil) (fun _ _ _ _ _ => (ed_call G_is_number (Ctx.no rfl) (hr.mono (by decide)) rfl (ad_cons (dv 0) (ad_cons (dv 4) ad_nil)))))) ad_nil)))))))) (sds_one (sd_raise0 (c := "NoNumber") Ex_NoNumber rfl ctx_def rfl)) sds_nil)))
theorem der_power_of (B : Bl mg) (cdv : Value) (A : Around) (outer : List Env) (s : Shared) (H : Hp) (E : XK) (hr : Room 0 (A.deeper (envOfC "power_of" (defScope st_power_of) s.heap.objs.size f cdv)))
    (C : Ctx (cxOf (L2.CX P w) P w K mg base N_power_of "power_of" (defScope st_power_of) f cdv A outer s H E) CA (XWof CA E)) : SDs (cxOf (L2.CX P w) P w K mg base N_power_of "power_of" (defScope st_power_of) f cdv A outer s H E) (XWof CA E) (defBody st_power_of) W_power_of := by
  have nd := sc_power_of.nd
  exact (sds_cons (d_set false 3 nd ed_int)
    (sds_cons (sd_forL (T := (.nm 4)) (g := (gName 4)) (passes_of rfl) rfl (id_rng1 rfl B.range (ad_cons (dv 2) ad_nil)) (dn 4 nd)
    (sds_one (d_set false 3 nd (ed_bin od_mod (ed_bin od_mulA (dv 3) (dv 1)) (dv 0)))))
    (sds_one (sd_ret (dv 3)))))
theorem der_inverse_of (B : Bl mg) (G_power_of : DFn P w K mg base CA 1 "power_of" S_power_of) (cdv : Value) (A : Around) (outer : List Env) (s : Shared) (H : Hp) (E : XK) (hr : Room 1 (A.deeper (envOfC "inverse_of" (defScope st_inverse_of) s.heap.objs.size f cdv)))
    (C : Ctx (cxOf (L2.CX P w) P w K mg base N_inverse_of "inverse_of" (defScope st_inverse_of) f cdv A outer s H E) CA (XWof CA E)) : SDs (cxOf (L2.CX P w) P w K mg base N_inverse_of "inverse_of" (defScope st_inverse_of) f cdv A outer s H E) (XWof CA E) (defBody st_inverse_of) W_inverse_of := by
  have nd := sc_inverse_of.nd
  exact (sds_one (sd_ret (ed_call G_power_of C (hr.mono (by decide)) rfl (ad_cons (dv 0) (ad_cons (dv 1) (ad_cons (ed_bin od_sub (dv 0) ed_int) ad_nil))))))
theorem der_sums_at (B : Bl mg) (G_inverse_of : DFn P w K mg base CA 2 "inverse_of" S_inverse_of) (cdv : Value) (A : Around) (outer : List Env) (s : Shared) (H : Hp) (E : XK) (hr : Room 2 (A.deeper (envOfC "sums_at" (defScope st_sums_at) s.heap.objs.size f cdv)))
    (C : Ctx (cxOf (L2.CX P w) P w K mg base N_sums_at "sums_at" (defScope st_sums_at) f cdv A outer s H E) CA (XWof CA E)) : SDs (cxOf (L2.CX P w) P w K mg base N_sums_at "sums_at" (defScope st_sums_at) f cdv A outer s H E) (XWof CA E) (defBody st_sums_at) W_sums_at := by
  have nd := sc_sums_at.nd
  exact (sds_cons (sd_if false (TWD.td (tw_or (td_cmp (od_inA (units65 hr)) (dv 4) (dv 1) (by rfl)) (tw_or1 (td_cmp (od_inA (units65 hr)) (dv 4) (dv 2) (by rfl))))) (sds_one (sd_ret ed_non)) sds_nil)
    (sds_cons (d_set false 5 nd (ed_bin od_mod (ed_blt (cd_sum rfl) rfl B.sum (by decide +kernel) (ad_cons (FD.ed (fd_lc (own := [("part", 7)]) (T := (.nm 7)) (g := (gName 7)) rfl nd (id_seq (dv 1)) (blkOk_by (N := N_sums_at) (sc := defScope st_sums_at) (by decide +kernel)) (by simp [Tgt.slots, Tgt.slotss]) (fun _ _ _ _ _ => (dn 7 nd)) (fun _ _ _ _ _ => ts_nil) (fun _ _ _ _ _ => (ed_call G_inverse_of (Ctx.no rfl) (hr.mono (by decide)) rfl (ad_cons (dv 0) (ad_cons (ed_bin od_mod (ed_bin od_sub (dv 4) (dv 7)) (dv 0)) ad_nil)))))) ad_nil)) (dv 0)))
    (sds_cons (d_set false 6 nd (ed_bin od_mod (ed_blt (cd_sum rfl) rfl B.sum (by decide +kernel) (ad_cons (FD.ed (fd_lc (own := [("part", 7), ("many", 8)]) (T := (.tup [(.nm 7), (.nm 8)])) (g := (gTup K 2 (gCons (gName 7) (gCons (gName 8) gNil)))) rfl nd (id_zip rfl B.zip (ad_cons (dv 2) (ad_cons (dv 3) ad_nil))) (blkOk_by (N := N_sums_at) (sc := defScope st_sums_at) (by decide +kernel)) (by simp [Tgt.slots, Tgt.slotss]) (fun _ _ _ _ _ => (gd_tup rfl (gds_cons (dn 7 nd) (gds_cons (dn 8 nd) gds_nil)))) (fun _ _ _ _ _ => ts_nil) (fun _ _ _ _ _ => (ed_bin od_mulA (dv 8) (ed_call G_inverse_of (Ctx.no rfl) (hr.mono (by decide)) rfl (ad_cons (dv 0) (ad_cons (ed_bin od_mod (ed_bin od_sub (dv 4) (dv 7)) (dv 0)) ad_nil))))))) ad_nil)) (dv 0)))
    (sds_one (sd_ret (ed_tup (ad_cons (dv 5) (ad_cons (dv 6) ad_nil))))))))
theorem der_check_at (B : Bl mg) (G_is_number : DFn P w K mg base CA 3 "is_number" S_is_number) (G_need_counts : DFn P w K mg base CA 6 "need_counts" S_need_counts) (G_sums_at : DFn P w K mg base CA 3 "sums_at" S_sums_at) (Ex_NoPoint : ExcF K mg CA "NoPoint" veBM) (cdv : Value) (A : Around) (outer : List Env) (s : Shared) (H : Hp) (E : XK) (hr : Room 6 (A.deeper (envOfC "check_at" (defScope st_check_at) s.heap.objs.size f cdv)))
    (C : Ctx (cxOf (L2.CX P w) P w K mg base N_check_at "check_at" (defScope st_check_at) f cdv A outer s H E) CA (XWof CA E)) : SDs (cxOf (L2.CX P w) P w K mg base N_check_at "check_at" (defScope st_check_at) f cdv A outer s H E) (XWof CA E) (defBody st_check_at) W_check_at := by
  have nd := sc_check_at.nd
  exact (sds_cons (sd_expr false (ed_call G_need_counts C (hr.mono (by decide)) rfl (ad_cons (dv 0) (ad_cons (dv 1) (ad_cons (dv 2) (ad_cons (dv 3) ad_nil))))))
    (sds_cons (sd_if false (td_not (td_of (ed_call G_is_number C (hr.mono (by decide)) rfl (ad_cons (dv 0) (ad_cons (dv 4) ad_nil))))) (sds_one (sd_raise0 (c := "NoPoint") Ex_NoPoint rfl ctx_def rfl)) sds_nil)
    (sds_cons (d_set false 5 nd (ed_call G_sums_at C (hr.mono (by decide)) rfl (ad_cons (dv 0) (ad_cons (dv 1) (ad_cons (dv 2) (ad_cons (dv 3) (ad_cons (dv 4) ad_nil)))))))
    (sds_one (sd_ret (ed_if (td_cmp od_is (dv 5) ed_non (nomark _)) ed_non (ed_cmp (od_eq hr.units) (ed_ix (dv 5) ed_int (fun _ _ => rfl)) (ed_ix (dv 5) ed_int (fun _ _ => rfl)) (nomark _))))))))
theorem der_trimmed (B : Bl mg) (cdv : Value) (A : Around) (outer : List Env) (s : Shared) (H : Hp) (E : XK) (hr : Room 0 (A.deeper (envOfC "trimmed" (defScope st_trimmed) s.heap.objs.size f cdv)))
    (C : Ctx (cxOf (L2.CX P w) P w K mg base N_trimmed "trimmed" (defScope st_trimmed) f cdv A outer s H E) CA (XWof CA E)) : SDs (cxOf (L2.CX P w) P w K mg base N_trimmed "trimmed" (defScope st_trimmed) f cdv A outer s H E) (XWof CA E) (defBody st_trimmed) W_trimmed := by
  have nd := sc_trimmed.nd
  exact (sds_cons (d_own false 1 nd (fd_bltT cf_list rfl B.list (by decide +kernel) (ad_cons (dv 0) ad_nil)))
    (sds_cons (sd_while true (passes_of rfl) (TWD.td (tw_and (td_cmp od_gt (ed_blt cd_len rfl B.len (by decide +kernel) (ad_cons (dv 1) ad_nil)) ed_int (nomark _)) (tw_and1 (td_cmp (od_eq hr.units) (ed_ix (dv 1) (ed_neg ed_int) (fun _ _ => rfl)) ed_int (nomark _))))) (sds_one (sd_pop (i := 1))))
    (sds_one (sd_ret (ed_bltT cd_tuple rfl B.tuple (by decide +kernel) (ad_cons (dv 1) ad_nil))))))
theorem der_times_lines (B : Bl mg) (G_trimmed : DFn P w K mg base CA 1 "trimmed" S_trimmed) (cdv : Value) (A : Around) (outer : List Env) (s : Shared) (H : Hp) (E : XK) (hr : Room 1 (A.deeper (envOfC "times_lines" (defScope st_times_lines) s.heap.objs.size f cdv)))
    (C : Ctx (cxOf (L2.CX P w) P w K mg base N_times_lines "times_lines" (defScope st_times_lines) f cdv A outer s H E) CA (XWof CA E)) : SDs (cxOf (L2.CX P w) P w K mg base N_times_lines "times_lines" (defScope st_times_lines) f cdv A outer s H E) (XWof CA E) (defBody st_times_lines) W_times_lines := by
  have nd := sc_times_lines.nd
  exact (sds_cons (d_own false 3 nd (fd_rep (FD.ed (fd_lst (ad_cons ed_int ad_nil))) (ed_blt (cd_max2 rfl) rfl B.max (by decide +kernel) (ad_cons ed_int (ad_cons (ed_bin od_sub (ed_bin od_add (ed_blt cd_len rfl B.len (by decide +kernel) (ad_cons (dv 1) ad_nil)) (ed_blt cd_len rfl B.len (by decide +kernel) (ad_cons (dv 2) ad_nil))) ed_int) ad_nil)))))
    (sds_cons (sd_forL (T := (.tup [(.nm 4), (.nm 5)])) (g := (gTup K 2 (gCons (gName 4) (gCons (gName 5) gNil)))) (passes_of rfl) rfl (id_enum rfl B.enumerate (ad_cons (dv 1) ad_nil)) (gd_tup rfl (gds_cons (dn 4 nd) (gds_cons (dn 5 nd) gds_nil)))
    (sds_one (sd_forL (T := (.tup [(.nm 6), (.nm 7)])) (g := (gTup K 2 (gCons (gName 6) (gCons (gName 7) gNil)))) (passes_of rfl) rfl (id_enum rfl B.enumerate (ad_cons (dv 2) ad_nil)) (gd_tup rfl (gds_cons (dn 6 nd) (gds_cons (dn 7 nd) gds_nil)))
    (sds_one (sd_setI (i := 3) true (ed_bin od_mod (ed_bin od_add (ed_ix (dv 3) (ed_bin od_add (dv 4) (dv 6)) (fun _ _ => rfl)) (ed_bin od_mulA (dv 5) (dv 7))) (dv 0)) (ed_bin od_add (dv 4) (dv 6)))))))
    (sds_one (sd_ret (ed_call G_trimmed C (hr.mono (by decide)) rfl (ad_cons (dv 3) ad_nil))))))
theorem der_line_of_roots (B : Bl mg) (G_is_number : DFn P w K mg base CA 3 "is_number" S_is_number) (G_need_prime : DFn P w K mg base CA 4 "need_prime" S_need_prime) (G_times_lines : DFn P w K mg base CA 2 "times_lines" S_times_lines) (Ex_NoPoints : ExcF K mg CA "NoPoints" veBM) (Cn : Consts K mg) (cdv : Value) (A : Around) (outer : List Env) (s : Shared) (H : Hp) (E : XK) (hr : Room 4 (A.deeper (envOfC "line_of_roots" (defScope st_line_of_roots) s.heap.objs.size f cdv)))
    (C : Ctx (cxOf (L2.CX P w) P w K mg base N_line_of_roots "line_of_roots" (defScope st_line_of_roots) f cdv A outer s H E) CA (XWof CA E)) : SDs (cxOf (L2.CX P w) P w K mg base N_line_of_roots "line_of_roots" (defScope st_line_of_roots) f cdv A outer s H E) (XWof CA E) (defBody st_line_of_roots) W_line_of_roots := by
  have nd := sc_line_of_roots.nd
  exact (sds_cons (sd_expr false (ed_call G_need_prime C (hr.mono (by decide)) rfl (ad_cons (dv 0) ad_nil)))
    (sds_cons (sd_if false (TWD.td (tw_or (td_not (td_of (ed_blt cd_isi rfl B.isinstance (by decide +kernel) (ad_cons (dv 1) (ad_cons (ed_ty rfl B.tuple (by decide +kernel)) ad_nil))))) (tw_or (td_cmp od_ge (ed_blt cd_len rfl B.len (by decide +kernel) (ad_cons (dv 1) ad_nil)) (ed_gl Cn.cMOST_LONG_lines rfl) (nomark _)) (tw_or1 (td_not (td_of (ed_blt (cd_all rfl) rfl B.all (by decide +kernel) (ad_cons (FD.ed (fd_lc (own := [("x", 3)]) (T := (.nm 3)) (g := (gName 3)) rfl nd (id_seq (dv 1)) (blkOk_by (N := N_line_of_roots) (sc := defScope st_line_of_roots) (by decide +kernel)) (by simp [Tgt.slots, Tgt.slotss]) (fun _ _ _ _ _ => (dn 3 nd)) (fun _ _ _ _ _ => ts_nil) (fun _ _ _ _ _ => (ed_call G_is_number (Ctx.no rfl) (hr.mono (by decide)) rfl (ad_cons (dv 0) (ad_cons (dv 3) ad_nil)))))) ad_nil)))))))) (sds_one (sd_raise0 (c := "NoPoints") Ex_NoPoints rfl ctx_def rfl)) sds_nil)
    (sds_cons (d_set false 2 nd (ed_tup (ad_cons ed_int ad_nil)))
    (sds_cons (sd_forL (T := (.nm 3)) (g := (gName 3)) (passes_of rfl) rfl (id_seq (dv 1)) (dn 3 nd)
    (sds_one (d_set false 2 nd (ed_call G_times_lines C (hr.mono (by decide)) rfl (ad_cons (dv 0) (ad_cons (dv 2) (ad_cons (ed_tup (ad_cons (ed_bin od_mod (ed_bin od_sub ed_int (dv 3)) (dv 0)) (ad_cons ed_int ad_nil))) ad_nil)))))))
    (sds_one (sd_ret (dv 2)))))))
theorem der_plus_lines (B : Bl mg) (G_trimmed : DFn P w K mg base CA 1 "trimmed" S_trimmed) (cdv : Value) (A : Around) (outer : List Env) (s : Shared) (H : Hp) (E : XK) (hr : Room 1 (A.deeper (envOfC "plus_lines" (defScope st_plus_lines) s.heap.objs.size f cdv)))
    (C : Ctx (cxOf (L2.CX P w) P w K mg base N_plus_lines "plus_lines" (defScope st_plus_lines) f cdv A outer s H E) CA (XWof CA E)) : SDs (cxOf (L2.CX P w) P w K mg base N_plus_lines "plus_lines" (defScope st_plus_lines) f cdv A outer s H E) (XWof CA E) (defBody st_plus_lines) W_plus_lines := by
  have nd := sc_plus_lines.nd
  exact (sds_cons (d_set false 3 nd (ed_blt (cd_max2 rfl) rfl B.max (by decide +kernel) (ad_cons (ed_blt cd_len rfl B.len (by decide +kernel) (ad_cons (dv 1) ad_nil)) (ad_cons (ed_blt cd_len rfl B.len (by decide +kernel) (ad_cons (dv 2) ad_nil)) ad_nil))))
    (sds_cons (d_setLc false 4 (own := [("line", 5)]) (T := (.nm 5)) (g := (gName 5)) rfl nd (id_seq (ed_tup (ad_cons (dv 1) (ad_cons (dv 2) ad_nil)))) (blkOk_by (N := N_plus_lines) (sc := defScope st_plus_lines) (by decide +kernel)) (by simp [Tgt.slots, Tgt.slotss]) (fun _ _ _ _ _ => (dn 5 nd)) (fun _ _ _ _ _ => ts_nil) (fun _ _ _ _ _ => (ed_bin od_add (dv 5) (ed_bin od_mulA (ed_tup (ad_cons ed_int ad_nil)) (ed_bin od_sub (dv 3) (ed_blt cd_len rfl B.len (by decide +kernel) (ad_cons (dv 5) ad_nil)))))))
    (sds_one (sd_ret (ed_call G_trimmed C (hr.mono (by decide)) rfl (ad_cons (FD.ed (fd_lc (own := [("mine", 6), ("theirs", 7)]) (T := (.tup [(.nm 6), (.nm 7)])) (g := (gTup K 2 (gCons (gName 6) (gCons (gName 7) gNil)))) rfl nd (id_zip rfl B.zip (ad_cons (ed_ix (dv 4) ed_int (fun _ _ => rfl)) (ad_cons (ed_ix (dv 4) ed_int (fun _ _ => rfl)) ad_nil))) (blkOk_by (N := N_plus_lines) (sc := defScope st_plus_lines) (by decide +kernel)) (by simp [Tgt.slots, Tgt.slotss]) (fun _ _ _ _ _ => (gd_tup rfl (gds_cons (dn 6 nd) (gds_cons (dn 7 nd) gds_nil)))) (fun _ _ _ _ _ => ts_nil) (fun _ _ _ _ _ => (ed_bin od_mod (ed_bin od_add (dv 6) (dv 7)) (dv 0))))) ad_nil))))))
theorem der_scaled_line (B : Bl mg) (G_trimmed : DFn P w K mg base CA 1 "trimmed" S_trimmed) (cdv : Value) (A : Around) (outer : List Env) (s : Shared) (H : Hp) (E : XK) (hr : Room 1 (A.deeper (envOfC "scaled_line" (defScope st_scaled_line) s.heap.objs.size f cdv)))
    (C : Ctx (cxOf (L2.CX P w) P w K mg base N_scaled_line "scaled_line" (defScope st_scaled_line) f cdv A outer s H E) CA (XWof CA E)) : SDs (cxOf (L2.CX P w) P w K mg base N_scaled_line "scaled_line" (defScope st_scaled_line) f cdv A outer s H E) (XWof CA E) (defBody st_scaled_line) W_scaled_line := by
  have nd := sc_scaled_line.nd
  exact (sds_one (sd_ret (ed_call G_trimmed C (hr.mono (by decide)) rfl (ad_cons (FD.ed (fd_lc (own := [("part", 3)]) (T := (.nm 3)) (g := (gName 3)) rfl nd (id_seq (dv 1)) (blkOk_by (N := N_scaled_line) (sc := defScope st_scaled_line) (by decide +kernel)) (by simp [Tgt.slots, Tgt.slotss]) (fun _ _ _ _ _ => (dn 3 nd)) (fun _ _ _ _ _ => ts_nil) (fun _ _ _ _ _ => (ed_bin od_mod (ed_bin od_mulA (dv 3) (dv 2)) (dv 0))))) ad_nil))))
theorem der_sum_line (B : Bl mg) (G_line_of_roots : DFn P w K mg base CA 5 "line_of_roots" S_line_of_roots) (G_plus_lines : DFn P w K mg base CA 2 "plus_lines" S_plus_lines) (G_scaled_line : DFn P w K mg base CA 2 "scaled_line" S_scaled_line) (cdv : Value) (A : Around) (outer : List Env) (s : Shared) (H : Hp) (E : XK) (hr : Room 5 (A.deeper (envOfC "sum_line" (defScope st_sum_line) s.heap.objs.size f cdv)))
    (C : Ctx (cxOf (L2.CX P w) P w K mg base N_sum_line "sum_line" (defScope st_sum_line) f cdv A outer s H E) CA (XWof CA E)) : SDs (cxOf (L2.CX P w) P w K mg base N_sum_line "sum_line" (defScope st_sum_line) f cdv A outer s H E) (XWof CA E) (defBody st_sum_line) W_sum_line := by
  have nd := sc_sum_line.nd
  exact (sds_cons (d_set false 3 nd (ed_tup ad_nil))
    (sds_cons (sd_forL (T := (.tup [(.nm 4), (.nm 5)])) (g := (gTup K 2 (gCons (gName 4) (gCons (gName 5) gNil)))) (passes_of rfl) rfl (id_enum rfl B.enumerate (ad_cons (dv 1) ad_nil)) (gd_tup rfl (gds_cons (dn 4 nd) (gds_cons (dn 5 nd) gds_nil)))
    (sds_one (d_set false 3 nd (ed_call G_plus_lines C (hr.mono (by decide)) rfl (ad_cons (dv 0) (ad_cons (dv 3) (ad_cons (ed_call G_scaled_line C (hr.mono (by decide)) rfl (ad_cons (dv 0) (ad_cons (ed_call G_line_of_roots C (hr.mono (by decide)) rfl (ad_cons (dv 0) (ad_cons (ed_bin od_add (ed_slice (dv 2) od_none (od_some (dv 4))) (ed_slice (dv 2) (od_some (ed_bin od_add (dv 4) ed_int)) od_none)) ad_nil))) (ad_cons (dv 5) ad_nil)))) ad_nil)))))))
    (sds_one (sd_ret (dv 3)))))
theorem der_lack_line (B : Bl mg) (G_line_of_roots : DFn P w K mg base CA 5 "line_of_roots" S_line_of_roots) (G_need_counts : DFn P w K mg base CA 6 "need_counts" S_need_counts) (G_plus_lines : DFn P w K mg base CA 2 "plus_lines" S_plus_lines) (G_scaled_line : DFn P w K mg base CA 2 "scaled_line" S_scaled_line) (G_sum_line : DFn P w K mg base CA 6 "sum_line" S_sum_line) (G_times_lines : DFn P w K mg base CA 2 "times_lines" S_times_lines) (cdv : Value) (A : Around) (outer : List Env) (s : Shared) (H : Hp) (E : XK) (hr : Room 6 (A.deeper (envOfC "lack_line" (defScope st_lack_line) s.heap.objs.size f cdv)))
    (C : Ctx (cxOf (L2.CX P w) P w K mg base N_lack_line "lack_line" (defScope st_lack_line) f cdv A outer s H E) CA (XWof CA E)) : SDs (cxOf (L2.CX P w) P w K mg base N_lack_line "lack_line" (defScope st_lack_line) f cdv A outer s H E) (XWof CA E) (defBody st_lack_line) W_lack_line := by
  have nd := sc_lack_line.nd
  exact (sds_cons (sd_expr false (ed_call G_need_counts C (hr.mono (by decide)) rfl (ad_cons (dv 0) (ad_cons (dv 1) (ad_cons (dv 2) (ad_cons (dv 3) ad_nil))))))
    (sds_cons (d_set false 4 nd (ed_call G_times_lines C (hr.mono (by decide)) rfl (ad_cons (dv 0) (ad_cons (ed_call G_sum_line C (hr.mono (by decide)) rfl (ad_cons (dv 0) (ad_cons (ed_bin od_mulA (ed_tup (ad_cons ed_int ad_nil)) (ed_blt cd_len rfl B.len (by decide +kernel) (ad_cons (dv 1) ad_nil))) (ad_cons (dv 1) ad_nil)))) (ad_cons (ed_call G_line_of_roots C (hr.mono (by decide)) rfl (ad_cons (dv 0) (ad_cons (dv 2) ad_nil))) ad_nil)))))
    (sds_cons (d_set false 5 nd (ed_call G_times_lines C (hr.mono (by decide)) rfl (ad_cons (dv 0) (ad_cons (ed_call G_sum_line C (hr.mono (by decide)) rfl (ad_cons (dv 0) (ad_cons (dv 3) (ad_cons (dv 2) ad_nil)))) (ad_cons (ed_call G_line_of_roots C (hr.mono (by decide)) rfl (ad_cons (dv 0) (ad_cons (dv 1) ad_nil))) ad_nil)))))
    (sds_one (sd_ret (ed_call G_plus_lines C (hr.mono (by decide)) rfl (ad_cons (dv 0) (ad_cons (dv 4) (ad_cons (ed_call G_scaled_line C (hr.mono (by decide)) rfl (ad_cons (dv 0) (ad_cons (dv 5) (ad_cons (ed_bin od_sub (dv 0) ed_int) ad_nil)))) ad_nil)))))))))
theorem der_value_of (B : Bl mg) (cdv : Value) (A : Around) (outer : List Env) (s : Shared) (H : Hp) (E : XK) (hr : Room 0 (A.deeper (envOfC "value_of" (defScope st_value_of) s.heap.objs.size f cdv)))
    (C : Ctx (cxOf (L2.CX P w) P w K mg base N_value_of "value_of" (defScope st_value_of) f cdv A outer s H E) CA (XWof CA E)) : SDs (cxOf (L2.CX P w) P w K mg base N_value_of "value_of" (defScope st_value_of) f cdv A outer s H E) (XWof CA E) (defBody st_value_of) W_value_of := by
  have nd := sc_value_of.nd
  exact (sds_cons (d_set false 3 nd ed_int)
    (sds_cons (sd_forL (T := (.nm 4)) (g := (gName 4)) (passes_of rfl) rfl (id_seq (ed_rev (dv 1))) (dn 4 nd)
    (sds_one (d_set false 3 nd (ed_bin od_mod (ed_bin od_add (ed_bin od_mulA (dv 3) (dv 2)) (dv 4)) (dv 0)))))
    (sds_one (sd_ret (dv 3)))))
theorem der_roots_of (B : Bl mg) (G_value_of : DFn P w K mg base CA 1 "value_of" S_value_of) (cdv : Value) (A : Around) (outer : List Env) (s : Shared) (H : Hp) (E : XK) (hr : Room 1 (A.deeper (envOfC "roots_of" (defScope st_roots_of) s.heap.objs.size f cdv)))
    (C : Ctx (cxOf (L2.CX P w) P w K mg base N_roots_of "roots_of" (defScope st_roots_of) f cdv A outer s H E) CA (XWof CA E)) : SDs (cxOf (L2.CX P w) P w K mg base N_roots_of "roots_of" (defScope st_roots_of) f cdv A outer s H E) (XWof CA E) (defBody st_roots_of) W_roots_of := by
  have nd := sc_roots_of.nd
  exact (sds_one (sd_ret (ed_bltT cd_tuple rfl B.tuple (by decide +kernel) (ad_cons (FD.ed (fd_lc (own := [("x", 2)]) (T := (.nm 2)) (g := (gName 2)) rfl nd (id_rng1 rfl B.range (ad_cons (dv 0) ad_nil)) (blkOk_by (N := N_roots_of) (sc := defScope st_roots_of) (by decide +kernel)) (by simp [Tgt.slots, Tgt.slotss]) (fun _ _ _ _ _ => (dn 2 nd)) (fun _ _ _ _ _ => (ts_one (td_cmp (od_eq hr.units) (ed_call G_value_of (Ctx.no rfl) (hr.mono (by decide)) rfl (ad_cons (dv 0) (ad_cons (dv 1) (ad_cons (dv 2) ad_nil)))) ed_int (nomark _)))) (fun _ _ _ _ _ => (dv 2)))) ad_nil))))
theorem der_false_passes (B : Bl mg) (G_lack_line : DFn P w K mg base CA 7 "lack_line" S_lack_line) (G_roots_of : DFn P w K mg base CA 2 "roots_of" S_roots_of) (cdv : Value) (A : Around) (outer : List Env) (s : Shared) (H : Hp) (E : XK) (hr : Room 7 (A.deeper (envOfC "false_passes" (defScope st_false_passes) s.heap.objs.size f cdv)))
    (C : Ctx (cxOf (L2.CX P w) P w K mg base N_false_passes "false_passes" (defScope st_false_passes) f cdv A outer s H E) CA (XWof CA E)) : SDs (cxOf (L2.CX P w) P w K mg base N_false_passes "false_passes" (defScope st_false_passes) f cdv A outer s H E) (XWof CA E) (defBody st_false_passes) W_false_passes := by
  have nd := sc_false_passes.nd
  exact (sds_cons (d_set false 4 nd (ed_call G_lack_line C (hr.mono (by decide)) rfl (ad_cons (dv 0) (ad_cons (dv 1) (ad_cons (dv 2) (ad_cons (dv 3) ad_nil))))))
    (sds_cons (sd_if false (td_cmp (od_eq hr.units) (ed_blt cd_len rfl B.len (by decide +kernel) (ad_cons (dv 4) ad_nil)) ed_int (nomark _)) (sds_one (sd_ret (ed_tup ad_nil))) sds_nil)
    (sds_one (sd_ret (ed_bltT cd_tuple rfl B.tuple (by decide +kernel) (ad_cons (FD.ed (fd_lc (own := [("x", 5)]) (T := (.nm 5)) (g := (gName 5)) rfl nd (id_seq (ed_call G_roots_of C (hr.mono (by decide)) rfl (ad_cons (dv 0) (ad_cons (dv 4) ad_nil)))) (blkOk_by (N := N_false_passes) (sc := defScope st_false_passes) (by decide +kernel)) (by simp [Tgt.slots, Tgt.slotss]) (fun _ _ _ _ _ => (dn 5 nd)) (fun _ _ _ _ _ => (ts_one (TWD.td (tw_and (td_cmp (od_notinA (units65 hr)) (dv 5) (dv 1) (by rfl)) (tw_and1 (td_cmp (od_notinA (units65 hr)) (dv 5) (dv 2) (by rfl))))))) (fun _ _ _ _ _ => (dv 5)))) ad_nil))))))
theorem der_is_looked_up (B : Bl mg) (G_lack_line : DFn P w K mg base CA 7 "lack_line" S_lack_line) (cdv : Value) (A : Around) (outer : List Env) (s : Shared) (H : Hp) (E : XK) (hr : Room 7 (A.deeper (envOfC "is_looked_up" (defScope st_is_looked_up) s.heap.objs.size f cdv)))
    (C : Ctx (cxOf (L2.CX P w) P w K mg base N_is_looked_up "is_looked_up" (defScope st_is_looked_up) f cdv A outer s H E) CA (XWof CA E)) : SDs (cxOf (L2.CX P w) P w K mg base N_is_looked_up "is_looked_up" (defScope st_is_looked_up) f cdv A outer s H E) (XWof CA E) (defBody st_is_looked_up) W_is_looked_up := by
  have nd := sc_is_looked_up.nd
  exact (sds_one (sd_ret (ed_cmp (od_eq hr.units) (ed_blt cd_len rfl B.len (by decide +kernel) (ad_cons (ed_call G_lack_line C (hr.mono (by decide)) rfl (ad_cons (dv 0) (ad_cons (dv 1) (ad_cons (dv 2) (ad_cons (dv 3) ad_nil))))) ad_nil)) ed_int (nomark _))))
theorem der_most_false (B : Bl mg) (G_need_rows_lookups : DFn P w K mg base CA 5 "need_rows_lookups" S_need_rows_lookups) (cdv : Value) (A : Around) (outer : List Env) (s : Shared) (H : Hp) (E : XK) (hr : Room 5 (A.deeper (envOfC "most_false" (defScope st_most_false) s.heap.objs.size f cdv)))
    (C : Ctx (cxOf (L2.CX P w) P w K mg base N_most_false "most_false" (defScope st_most_false) f cdv A outer s H E) CA (XWof CA E)) : SDs (cxOf (L2.CX P w) P w K mg base N_most_false "most_false" (defScope st_most_false) f cdv A outer s H E) (XWof CA E) (defBody st_most_false) W_most_false := by
  have nd := sc_most_false.nd
  exact (sds_cons (sd_expr false (ed_call G_need_rows_lookups C (hr.mono (by decide)) rfl (ad_cons (dv 0) (ad_cons (dv 1) (ad_cons (dv 2) ad_nil)))))
    (sds_one (sd_ret (ed_blt (cd_max2 rfl) rfl B.max (by decide +kernel) (ad_cons ed_int (ad_cons (ed_bin od_sub (ed_bin od_add (ed_blt cd_len rfl B.len (by decide +kernel) (ad_cons (dv 1) ad_nil)) (ed_blt cd_len rfl B.len (by decide +kernel) (ad_cons (dv 2) ad_nil))) ed_int) ad_nil))))))
theorem der_passing (B : Bl mg) (G_need_counts : DFn P w K mg base CA 6 "need_counts" S_need_counts) (G_sums_at : DFn P w K mg base CA 3 "sums_at" S_sums_at) (cdv : Value) (A : Around) (outer : List Env) (s : Shared) (H : Hp) (E : XK) (hr : Room 6 (A.deeper (envOfC "passing" (defScope st_passing) s.heap.objs.size f cdv)))
    (C : Ctx (cxOf (L2.CX P w) P w K mg base N_passing "passing" (defScope st_passing) f cdv A outer s H E) CA (XWof CA E)) : SDs (cxOf (L2.CX P w) P w K mg base N_passing "passing" (defScope st_passing) f cdv A outer s H E) (XWof CA E) (defBody st_passing) W_passing := by
  have nd := sc_passing.nd
  exact (sds_cons (sd_expr false (ed_call G_need_counts C (hr.mono (by decide)) rfl (ad_cons (dv 0) (ad_cons (dv 1) (ad_cons (dv 2) (ad_cons (dv 3) ad_nil))))))
    (sds_cons (d_own false 4 nd (fd_lst ad_nil))
    (sds_cons (sd_forL (T := (.nm 5)) (g := (gName 5)) (passes_of rfl) rfl (id_rng1 rfl B.range (ad_cons (dv 0) ad_nil)) (dn 5 nd)
    (sds_cons (d_set false 6 nd (ed_call G_sums_at C (hr.mono (by decide)) rfl (ad_cons (dv 0) (ad_cons (dv 1) (ad_cons (dv 2) (ad_cons (dv 3) (ad_cons (dv 5) ad_nil)))))))
    (sds_one (sd_if false (TWD.td (tw_and (td_cmp od_isnot (dv 6) ed_non (nomark _)) (tw_and1 (td_cmp (od_eq hr.units) (ed_ix (dv 6) ed_int (fun _ _ => rfl)) (ed_ix (dv 6) ed_int (fun _ _ => rfl)) (nomark _))))) (sds_one (sd_app (i := 4) false (dv 5))) sds_nil))))
    (sds_one (sd_ret (ed_bltT cd_tuple rfl B.tuple (by decide +kernel) (ad_cons (dv 4) ad_nil)))))))
theorem der_common (B : Bl mg) (cdv : Value) (A : Around) (outer : List Env) (s : Shared) (H : Hp) (E : XK) (hr : Room 0 (A.deeper (envOfC "common" (defScope st_common) s.heap.objs.size f cdv)))
    (C : Ctx (cxOf (L2.CX P w) P w K mg base N_common "common" (defScope st_common) f cdv A outer s H E) CA (XWof CA E)) : SDs (cxOf (L2.CX P w) P w K mg base N_common "common" (defScope st_common) f cdv A outer s H E) (XWof CA E) (defBody st_common) W_common := by
  have nd := sc_common.nd
  exact (sds_cons (sd_while false (passes_of rfl) (td_cmp od_gt (dv 1) ed_int (nomark _)) (sds_one (d_par false 0 1 nd (ad_cons (dv 1) (ad_cons (ed_bin od_mod (dv 0) (dv 1)) ad_nil)))))
    (sds_one (sd_ret (dv 0))))
theorem der_fraction (B : Bl mg) (G_common : DFn P w K mg base CA 1 "common" S_common) (cdv : Value) (A : Around) (outer : List Env) (s : Shared) (H : Hp) (E : XK) (hr : Room 1 (A.deeper (envOfC "fraction" (defScope st_fraction) s.heap.objs.size f cdv)))
    (C : Ctx (cxOf (L2.CX P w) P w K mg base N_fraction "fraction" (defScope st_fraction) f cdv A outer s H E) CA (XWof CA E)) : SDs (cxOf (L2.CX P w) P w K mg base N_fraction "fraction" (defScope st_fraction) f cdv A outer s H E) (XWof CA E) (defBody st_fraction) W_fraction := by
  have nd := sc_fraction.nd
  exact (sds_cons (d_set false 2 nd (ed_call G_common C (hr.mono (by decide)) rfl (ad_cons (ed_blt cd_abs rfl B.abs (by decide +kernel) (ad_cons (dv 0) ad_nil)) (ad_cons (dv 1) ad_nil))))
    (sds_one (sd_ret (ed_tup (ad_cons (ed_bin od_fdivA (dv 0) (dv 2)) (ad_cons (ed_bin od_fdivA (dv 1) (dv 2)) ad_nil))))))
theorem der_passing_share (B : Bl mg) (G_fraction : DFn P w K mg base CA 2 "fraction" S_fraction) (G_passing : DFn P w K mg base CA 7 "passing" S_passing) (cdv : Value) (A : Around) (outer : List Env) (s : Shared) (H : Hp) (E : XK) (hr : Room 7 (A.deeper (envOfC "passing_share" (defScope st_passing_share) s.heap.objs.size f cdv)))
    (C : Ctx (cxOf (L2.CX P w) P w K mg base N_passing_share "passing_share" (defScope st_passing_share) f cdv A outer s H E) CA (XWof CA E)) : SDs (cxOf (L2.CX P w) P w K mg base N_passing_share "passing_share" (defScope st_passing_share) f cdv A outer s H E) (XWof CA E) (defBody st_passing_share) W_passing_share := by
  have nd := sc_passing_share.nd
  exact (sds_cons (d_set false 4 nd (ed_call G_passing C (hr.mono (by decide)) rfl (ad_cons (dv 0) (ad_cons (dv 1) (ad_cons (dv 2) (ad_cons (dv 3) ad_nil))))))
    (sds_cons (d_setLc false 5 (own := [("x", 6)]) (T := (.nm 6)) (g := (gName 6)) rfl nd (id_rng1 rfl B.range (ad_cons (dv 0) ad_nil)) (blkOk_by (N := N_passing_share) (sc := defScope st_passing_share) (by decide +kernel)) (by simp [Tgt.slots, Tgt.slotss]) (fun _ _ _ _ _ => (dn 6 nd)) (fun _ _ _ _ _ => (ts_one (TWD.td (tw_and (td_cmp (od_notinA (units65 hr)) (dv 6) (dv 1) (by rfl)) (tw_and1 (td_cmp (od_notinA (units65 hr)) (dv 6) (dv 2) (by rfl))))))) (fun _ _ _ _ _ => (dv 6)))
    (sds_one (sd_ret (ed_if (td_cmp (od_eq hr.units) (ed_blt cd_len rfl B.len (by decide +kernel) (ad_cons (dv 5) ad_nil)) ed_int (nomark _)) ed_non (ed_call G_fraction C (hr.mono (by decide)) rfl (ad_cons (ed_blt cd_len rfl B.len (by decide +kernel) (ad_cons (dv 4) ad_nil)) (ad_cons (ed_blt cd_len rfl B.len (by decide +kernel) (ad_cons (dv 5) ad_nil)) ad_nil))))))))
theorem der_product_at (B : Bl mg) (cdv : Value) (A : Around) (outer : List Env) (s : Shared) (H : Hp) (E : XK) (hr : Room 0 (A.deeper (envOfC "product_at" (defScope st_product_at) s.heap.objs.size f cdv)))
    (C : Ctx (cxOf (L2.CX P w) P w K mg base N_product_at "product_at" (defScope st_product_at) f cdv A outer s H E) CA (XWof CA E)) : SDs (cxOf (L2.CX P w) P w K mg base N_product_at "product_at" (defScope st_product_at) f cdv A outer s H E) (XWof CA E) (defBody st_product_at) W_product_at := by
  have nd := sc_product_at.nd
  exact (sds_cons (d_set false 3 nd ed_int)
    (sds_cons (sd_forL (T := (.nm 4)) (g := (gName 4)) (passes_of rfl) rfl (id_seq (dv 1)) (dn 4 nd)
    (sds_one (d_set false 3 nd (ed_bin od_mod (ed_bin od_mulA (dv 3) (ed_bin od_sub (dv 2) (dv 4))) (dv 0)))))
    (sds_one (sd_ret (dv 3)))))
theorem der_points_agreeing (B : Bl mg) (G_need_rows_checklots : DFn P w K mg base CA 5 "need_rows_checklots" S_need_rows_checklots) (G_product_at : DFn P w K mg base CA 1 "product_at" S_product_at) (cdv : Value) (A : Around) (outer : List Env) (s : Shared) (H : Hp) (E : XK) (hr : Room 5 (A.deeper (envOfC "points_agreeing" (defScope st_points_agreeing) s.heap.objs.size f cdv)))
    (C : Ctx (cxOf (L2.CX P w) P w K mg base N_points_agreeing "points_agreeing" (defScope st_points_agreeing) f cdv A outer s H E) CA (XWof CA E)) : SDs (cxOf (L2.CX P w) P w K mg base N_points_agreeing "points_agreeing" (defScope st_points_agreeing) f cdv A outer s H E) (XWof CA E) (defBody st_points_agreeing) W_points_agreeing := by
  have nd := sc_points_agreeing.nd
  exact (sds_cons (sd_expr false (ed_call G_need_rows_checklots C (hr.mono (by decide)) rfl (ad_cons (dv 0) (ad_cons (dv 1) (ad_cons (dv 2) ad_nil)))))
    (sds_one (sd_ret (ed_bltT cd_tuple rfl B.tuple (by decide +kernel) (ad_cons (FD.ed (fd_lc (own := [("point", 3)]) (T := (.nm 3)) (g := (gName 3)) rfl nd (id_rng1 rfl B.range (ad_cons (dv 0) ad_nil)) (blkOk_by (N := N_points_agreeing) (sc := defScope st_points_agreeing) (by decide +kernel)) (by simp [Tgt.slots, Tgt.slotss]) (fun _ _ _ _ _ => (dn 3 nd)) (fun _ _ _ _ _ => (ts_one (td_cmp (od_eq hr.units) (ed_call G_product_at (Ctx.no rfl) (hr.mono (by decide)) rfl (ad_cons (dv 0) (ad_cons (dv 1) (ad_cons (dv 3) ad_nil)))) (ed_call G_product_at (Ctx.no rfl) (hr.mono (by decide)) rfl (ad_cons (dv 0) (ad_cons (dv 2) (ad_cons (dv 3) ad_nil)))) (nomark _)))) (fun _ _ _ _ _ => (dv 3)))) ad_nil)))))
theorem der_strange (B : Bl mg) (G_need_rows_lookups : DFn P w K mg base CA 5 "need_rows_lookups" S_need_rows_lookups) (cdv : Value) (A : Around) (outer : List Env) (s : Shared) (H : Hp) (E : XK) (hr : Room 5 (A.deeper (envOfC "strange" (defScope st_strange) s.heap.objs.size f cdv)))
    (C : Ctx (cxOf (L2.CX P w) P w K mg base N_strange "strange" (defScope st_strange) f cdv A outer s H E) CA (XWof CA E)) : SDs (cxOf (L2.CX P w) P w K mg base N_strange "strange" (defScope st_strange) f cdv A outer s H E) (XWof CA E) (defBody st_strange) W_strange := by
  have nd := sc_strange.nd
  exact (sds_cons (sd_expr false (ed_call G_need_rows_lookups C (hr.mono (by decide)) rfl (ad_cons (dv 0) (ad_cons (dv 1) (ad_cons (dv 2) ad_nil)))))
    (sds_one (sd_ret (ed_bltT cd_tuple rfl B.tuple (by decide +kernel) (ad_cons (FD.ed (fd_lc (own := [("at", 3), ("x", 4)]) (T := (.tup [(.nm 3), (.nm 4)])) (g := (gTup K 2 (gCons (gName 3) (gCons (gName 4) gNil)))) rfl nd (id_enum rfl B.enumerate (ad_cons (dv 1) ad_nil)) (blkOk_by (N := N_strange) (sc := defScope st_strange) (by decide +kernel)) (by simp [Tgt.slots, Tgt.slotss]) (fun _ _ _ _ _ => (gd_tup rfl (gds_cons (dn 3 nd) (gds_cons (dn 4 nd) gds_nil)))) (fun _ _ _ _ _ => (ts_one (td_cmp (od_notinA (units65 hr)) (dv 4) (dv 2) (by rfl)))) (fun _ _ _ _ _ => (dv 3)))) ad_nil)))))
theorem der_tally (B : Bl mg) (G_need_rows_lookups : DFn P w K mg base CA 5 "need_rows_lookups" S_need_rows_lookups) (cdv : Value) (A : Around) (outer : List Env) (s : Shared) (H : Hp) (E : XK) (hr : Room 5 (A.deeper (envOfC "tally" (defScope st_tally) s.heap.objs.size f cdv)))
    (C : Ctx (cxOf (L2.CX P w) P w K mg base N_tally "tally" (defScope st_tally) f cdv A outer s H E) CA (XWof CA E)) : SDs (cxOf (L2.CX P w) P w K mg base N_tally "tally" (defScope st_tally) f cdv A outer s H E) (XWof CA E) (defBody st_tally) W_tally := by
  have nd := sc_tally.nd
  exact (sds_cons (sd_expr false (ed_call G_need_rows_lookups C (hr.mono (by decide)) rfl (ad_cons (dv 0) (ad_cons (dv 1) (ad_cons (dv 2) ad_nil)))))
    (sds_one (sd_ret (ed_bltT cd_tuple rfl B.tuple (by decide +kernel) (ad_cons (FD.ed (fd_lc (own := [("x", 3)]) (T := (.nm 3)) (g := (gName 3)) rfl nd (id_seq (dv 2)) (blkOk_by (N := N_tally) (sc := defScope st_tally) (by decide +kernel)) (by simp [Tgt.slots, Tgt.slotss]) (fun _ _ _ _ _ => (dn 3 nd)) (fun _ _ _ _ _ => ts_nil) (fun _ _ _ _ _ => (ed_count (dv 1) (dv 3) (fun t ta h1 h2 => pe_bmF PySem.F.plainAttrs_tuple PySem.F.slot_tuple_count PySem.F.type_tuple_count (mt_tcount (units65 hr)) h1 (pa_cons h2 pa_nil)))))) ad_nil)))))
theorem der_law (B : Bl mg) (G__law_draw : DFn P w K mg base CA 1 "_law_draw" S__law_draw) (G__law_frac : DFn P w K mg base CA 2 "_law_frac" S__law_frac) (G__law_hand : DFn P w K mg base CA 1 "_law_hand" S__law_hand) (G__law_kept : DFn P w K mg base CA 5 "_law_kept" S__law_kept) (G__law_mixed : DFn P w K mg base CA 2 "_law_mixed" S__law_mixed) (G__law_numbers : DFn P w K mg base CA 2 "_law_numbers" S__law_numbers) (G__law_some : DFn P w K mg base CA 2 "_law_some" S__law_some) (G__law_sums : DFn P w K mg base CA 2 "_law_sums" S__law_sums) (G_are_one_lot : DFn P w K mg base CA 6 "are_one_lot" S_are_one_lot) (G_check_at : DFn P w K mg base CA 7 "check_at" S_check_at) (G_false_passes : DFn P w K mg base CA 8 "false_passes" S_false_passes) (G_is_looked_up : DFn P w K mg base CA 8 "is_looked_up" S_is_looked_up) (G_lack_line : DFn P w K mg base CA 7 "lack_line" S_lack_line) (G_most_false : DFn P w K mg base CA 6 "most_false" S_most_false) (G_passing : DFn P w K mg base CA 7 "passing" S_passing) (G_passing_share : DFn P w K mg base CA 8 "passing_share" S_passing_share) (G_points_agreeing : DFn P w K mg base CA 6 "points_agreeing" S_points_agreeing) (G_strange : DFn P w K mg base CA 6 "strange" S_strange) (G_tally : DFn P w K mg base CA 6 "tally" S_tally) (cdv : Value) (A : Around) (outer : List Env) (s : Shared) (H : Hp) (E : XK) (hr : Room 8 (A.deeper (envOfC "law" (defScope st_law) s.heap.objs.size f cdv)))
    (C : Ctx (cxOf (L2.CX P w) P w K mg base N_law "law" (defScope st_law) f cdv A outer s H E) CA (XWof CA E)) : SDs (cxOf (L2.CX P w) P w K mg base N_law "law" (defScope st_law) f cdv A outer s H E) (XWof CA E) (defBody st_law) W_law := by
  have nd := sc_law.nd
  exact (sds_cons (d_set false 1 nd (ed_call G__law_hand C (hr.mono (by decide)) rfl (ad_cons (dv 0) ad_nil)))
    (sds_cons (sd_forL (T := (.nm 2)) (g := (gName 2)) (passes_of rfl) rfl (id_rng1 rfl B.range (ad_cons ed_int ad_nil)) (dn 2 nd)
    (sds_cons (d_set false 3 nd (ed_call G__law_some C (hr.mono (by decide)) rfl (ad_cons (dv 1) (ad_cons (FD.ed (fd_lst (ad_cons ed_int (ad_cons ed_int (ad_cons ed_int (ad_cons ed_int (ad_cons ed_int ad_nil))))))) ad_nil))))
    (sds_cons (d_set false 4 nd (ed_bltT cd_tuple rfl B.tuple (by decide +kernel) (ad_cons (FD.ed (fd_blt (cf_sorted (units65 hr)) rfl B.sorted (by decide +kernel) (ad_cons (ed_slice (ed_call G__law_mixed C (hr.mono (by decide)) rfl (ad_cons (dv 1) (ad_cons (FD.ed (fd_lrg1 rfl rfl B.list rfl B.range (dv 3))) ad_nil))) od_none (od_some (ed_call G__law_draw C (hr.mono (by decide)) rfl (ad_cons (dv 1) (ad_cons ed_int ad_nil))))) ad_nil))) ad_nil)))
    (sds_cons (d_set false 5 nd (ed_bltT cd_tuple rfl B.tuple (by decide +kernel) (ad_cons (FD.ed (fd_lc (own := [("step", 18)]) (T := (.nm 18)) (g := (gName 18)) rfl nd (id_rng1 rfl B.range (ad_cons (ed_call G__law_draw C (hr.mono (by decide)) rfl (ad_cons (dv 1) (ad_cons ed_int ad_nil))) ad_nil)) (blkOk_by (N := N_law) (sc := defScope st_law) (by decide +kernel)) (by simp [Tgt.slots, Tgt.slotss]) (fun _ _ _ _ _ => (dn 18 nd)) (fun _ _ _ _ _ => ts_nil) (fun _ _ _ _ _ => (ed_call G__law_some (Ctx.no rfl) (hr.mono (by decide)) rfl (ad_cons (dv 1) (ad_cons (ed_bin od_add (FD.ed (fd_bltT cf_list rfl B.list (by decide +kernel) (ad_cons (dv 4) ad_nil))) (FD.ed (fd_lst (ad_cons (ed_call G__law_draw (Ctx.no rfl) (hr.mono (by decide)) rfl (ad_cons (dv 1) (ad_cons (dv 3) ad_nil))) ad_nil)))) ad_nil)))))) ad_nil)))
    (sds_cons (d_set false 6 nd (ed_bltT cd_tuple rfl B.tuple (by decide +kernel) (ad_cons (FD.ed (fd_lc (own := [("x", 12)]) (T := (.nm 12)) (g := (gName 12)) rfl nd (id_seq (dv 4)) (blkOk_by (N := N_law) (sc := defScope st_law) (by decide +kernel)) (by simp [Tgt.slots, Tgt.slotss]) (fun _ _ _ _ _ => (dn 12 nd)) (fun _ _ _ _ _ => ts_nil) (fun _ _ _ _ _ => (ed_blt cd_len rfl B.len (by decide +kernel) (ad_cons (FD.ed (fd_lc (own := [("part", 19)]) (T := (.nm 19)) (g := (gName 19)) rfl nd (id_seq (dv 5)) (blkOk_by (by kernel_rfl)) (by simp [Tgt.slots, Tgt.slotss]) (fun _ _ _ _ _ => (dn 19 nd)) (fun _ _ _ _ _ => (ts_one (td_cmp (od_eq hr.units) (dv 19) (dv 12) (nomark _)))) (fun _ _ _ _ _ => (dv 19)))) ad_nil))))) ad_nil)))
    (sds_cons (d_set false 7 nd (ed_if (td_cmp (od_eq hr.units) (ed_call G__law_draw C (hr.mono (by decide)) rfl (ad_cons (dv 1) (ad_cons ed_int ad_nil))) ed_int (nomark _)) (dv 6) (ed_call G__law_numbers C (hr.mono (by decide)) rfl (ad_cons (dv 1) (ad_cons (dv 3) (ad_cons (ed_blt cd_len rfl B.len (by decide +kernel) (ad_cons (dv 4) ad_nil)) ad_nil))))))
    (sds_cons (d_set false 8 nd (ed_bltT cd_tuple rfl B.tuple (by decide +kernel) (ad_cons (FD.ed (fd_lc (own := [("at", 16)]) (T := (.nm 16)) (g := (gName 16)) rfl nd (id_rng1 rfl B.range (ad_cons (ed_blt cd_len rfl B.len (by decide +kernel) (ad_cons (dv 5) ad_nil)) ad_nil)) (blkOk_by (N := N_law) (sc := defScope st_law) (by decide +kernel)) (by simp [Tgt.slots, Tgt.slotss]) (fun _ _ _ _ _ => (dn 16 nd)) (fun _ _ _ _ _ => (ts_one (td_cmp (od_notinA (units65 hr)) (ed_ix (dv 5) (dv 16) (fun _ _ => rfl)) (dv 4) (by rfl)))) (fun _ _ _ _ _ => (dv 16)))) ad_nil)))
    (sds_cons (sd_if false (TWD.td (tw_or (td_not (td_of (ed_call G__law_kept C (hr.mono (by decide)) rfl (ad_cons (ed_call G_strange C (hr.mono (by decide)) rfl (ad_cons (dv 3) (ad_cons (dv 5) (ad_cons (dv 4) ad_nil)))) (ad_cons (dv 8) ad_nil))))) (tw_or1 (td_not (td_of (ed_call G__law_kept C (hr.mono (by decide)) rfl (ad_cons (ed_call G_tally C (hr.mono (by decide)) rfl (ad_cons (dv 3) (ad_cons (dv 5) (ad_cons (dv 4) ad_nil)))) (ad_cons (dv 6) ad_nil)))))))) (sds_one (sd_ret ed_bl)) sds_nil)
    (sds_cons (d_set false 9 nd (ed_and (ed_cmp (od_eq hr.units) (ed_blt cd_len rfl B.len (by decide +kernel) (ad_cons (dv 8) ad_nil)) ed_int (nomark _)) (ed_one (ed_cmp (od_eq hr.units) (dv 7) (dv 6) (nomark _)))))
    (sds_cons (sd_if false (TWD.td (tw_or (td_not (td_of (ed_call G__law_kept C (hr.mono (by decide)) rfl (ad_cons (ed_call G_is_looked_up C (hr.mono (by decide)) rfl (ad_cons (dv 3) (ad_cons (dv 5) (ad_cons (dv 4) (ad_cons (dv 7) ad_nil))))) (ad_cons (dv 9) ad_nil))))) (tw_or1 (td_cmp (od_ne hr.units) (ed_cmp (od_eq hr.units) (ed_call G_lack_line C (hr.mono (by decide)) rfl (ad_cons (dv 3) (ad_cons (dv 5) (ad_cons (dv 4) (ad_cons (dv 7) ad_nil))))) (ed_tup ad_nil) (nomark _)) (dv 9) (nomark _))))) (sds_one (sd_ret ed_bl)) sds_nil)
    (sds_cons (d_setLc false 10 (own := [("x", 12)]) (T := (.nm 12)) (g := (gName 12)) rfl nd (id_rng1 rfl B.range (ad_cons (dv 3) ad_nil)) (blkOk_by (N := N_law) (sc := defScope st_law) (by decide +kernel)) (by simp [Tgt.slots, Tgt.slotss]) (fun _ _ _ _ _ => (dn 12 nd)) (fun _ _ _ _ _ => (ts_one (TWD.td (tw_and (td_cmp (od_notinA (units65 hr)) (dv 12) (dv 5) (by rfl)) (tw_and1 (td_cmp (od_notinA (units65 hr)) (dv 12) (dv 4) (by rfl))))))) (fun _ _ _ _ _ => (dv 12)))
    (sds_cons (d_set false 11 nd (FD.ed (fd_lst ad_nil)))
    (sds_cons (sd_forL (T := (.nm 12)) (g := (gName 12)) (passes_of rfl) rfl (id_rng1 rfl B.range (ad_cons (dv 3) ad_nil)) (dn 12 nd)
    (sds_cons (sd_if false (td_cmp (od_notinA (units65 hr)) (dv 12) (dv 10) (by rfl)) (sds_cons (sd_if false (td_cmp od_isnot (ed_call G_check_at C (hr.mono (by decide)) rfl (ad_cons (dv 3) (ad_cons (dv 5) (ad_cons (dv 4) (ad_cons (dv 7) (ad_cons (dv 12) ad_nil)))))) ed_non (nomark _)) (sds_one (sd_ret ed_bl)) sds_nil)
    (sds_one sd_cont)) sds_nil)
    (sds_cons (sd_asg (T := (.tup [(.nm 13), (.nm 14)])) (g := (gTup K 2 (gCons (gName 13) (gCons (gName 14) gNil)))) false (ed_call G__law_sums C (hr.mono (by decide)) rfl (ad_cons (dv 3) (ad_cons (dv 5) (ad_cons (dv 4) (ad_cons (dv 7) (ad_cons (dv 12) ad_nil)))))) (gd_tup rfl (gds_cons (dn 13 nd) (gds_cons (dn 14 nd) gds_nil))))
    (sds_cons (d_set false 11 nd (ed_bin od_add (dv 11) (ed_if (td_cmp (od_eq hr.units) (dv 13) (dv 14) (nomark _)) (FD.ed (fd_lst (ad_cons (dv 12) ad_nil))) (FD.ed (fd_lst ad_nil)))))
    (sds_one (sd_if false (td_not (td_of (ed_call G__law_kept C (hr.mono (by decide)) rfl (ad_cons (ed_call G_check_at C (hr.mono (by decide)) rfl (ad_cons (dv 3) (ad_cons (dv 5) (ad_cons (dv 4) (ad_cons (dv 7) (ad_cons (dv 12) ad_nil)))))) (ad_cons (ed_cmp (od_eq hr.units) (dv 13) (dv 14) (nomark _)) ad_nil))))) (sds_one (sd_ret ed_bl)) sds_nil))))))
    (sds_cons (sd_if false (TWD.td (tw_or (td_not (td_of (ed_call G__law_kept C (hr.mono (by decide)) rfl (ad_cons (ed_call G_passing C (hr.mono (by decide)) rfl (ad_cons (dv 3) (ad_cons (dv 5) (ad_cons (dv 4) (ad_cons (dv 7) ad_nil))))) (ad_cons (ed_bltT cd_tuple rfl B.tuple (by decide +kernel) (ad_cons (dv 11) ad_nil)) ad_nil))))) (tw_or1 (td_not (td_of (ed_call G__law_kept C (hr.mono (by decide)) rfl (ad_cons (ed_call G_passing_share C (hr.mono (by decide)) rfl (ad_cons (dv 3) (ad_cons (dv 5) (ad_cons (dv 4) (ad_cons (dv 7) ad_nil))))) (ad_cons (ed_if (td_cmp od_gt (ed_blt cd_len rfl B.len (by decide +kernel) (ad_cons (dv 10) ad_nil)) ed_int (nomark _)) (ed_call G__law_frac C (hr.mono (by decide)) rfl (ad_cons (ed_blt cd_len rfl B.len (by decide +kernel) (ad_cons (dv 11) ad_nil)) (ad_cons (ed_blt cd_len rfl B.len (by decide +kernel) (ad_cons (dv 10) ad_nil)) ad_nil))) ed_non) ad_nil)))))))) (sds_one (sd_ret ed_bl)) sds_nil)
    (sds_cons (sd_if false (TWD.td (tw_or (td_not (td_of (ed_call G__law_kept C (hr.mono (by decide)) rfl (ad_cons (ed_call G_false_passes C (hr.mono (by decide)) rfl (ad_cons (dv 3) (ad_cons (dv 5) (ad_cons (dv 4) (ad_cons (dv 7) ad_nil))))) (ad_cons (ed_if (td_of (dv 9)) (ed_tup ad_nil) (ed_bltT cd_tuple rfl B.tuple (by decide +kernel) (ad_cons (dv 11) ad_nil))) ad_nil))))) (tw_or1 (TWD.td (tw_and (td_not (td_of (dv 9))) (tw_and1 (td_cmp od_gt (ed_blt cd_len rfl B.len (by decide +kernel) (ad_cons (dv 11) ad_nil)) (ed_call G_most_false C (hr.mono (by decide)) rfl (ad_cons (dv 3) (ad_cons (dv 5) (ad_cons (dv 4) ad_nil)))) (nomark _)))))))) (sds_one (sd_ret ed_bl)) sds_nil)
    (sds_cons (sd_if false (TWD.td (tw_and (td_of (dv 9)) (tw_and1 (td_cmp (od_ne hr.units) (ed_blt cd_len rfl B.len (by decide +kernel) (ad_cons (dv 11) ad_nil)) (ed_blt cd_len rfl B.len (by decide +kernel) (ad_cons (dv 10) ad_nil)) (nomark _))))) (sds_one (sd_ret ed_bl)) sds_nil)
    (sds_cons (d_set false 15 nd (FD.ed (fd_lst ad_nil)))
    (sds_cons (sd_forL (T := (.nm 16)) (g := (gName 16)) (passes_of rfl) rfl (id_rng1 rfl B.range (ad_cons (ed_blt cd_len rfl B.len (by decide +kernel) (ad_cons (dv 4) ad_nil)) ad_nil)) (dn 16 nd)
    (sds_one (d_set false 15 nd (ed_bin od_add (dv 15) (ed_bin od_mulA (FD.ed (fd_lst (ad_cons (ed_ix (dv 4) (dv 16) (fun _ _ => rfl)) ad_nil))) (ed_ix (dv 7) (dv 16) (fun _ _ => rfl)))))))
    (sds_one (sd_if false (td_cmp (od_eq hr.units) (ed_blt cd_len rfl B.len (by decide +kernel) (ad_cons (dv 15) ad_nil)) (ed_blt cd_len rfl B.len (by decide +kernel) (ad_cons (dv 5) ad_nil)) (nomark _)) (sds_cons (d_set false 17 nd (ed_call G_are_one_lot C (hr.mono (by decide)) rfl (ad_cons (dv 3) (ad_cons (dv 5) (ad_cons (ed_bltT cd_tuple rfl B.tuple (by decide +kernel) (ad_cons (dv 15) ad_nil)) ad_nil)))))
    (sds_one (sd_if false (TWD.td (tw_or (td_cmp (od_ne hr.units) (dv 17) (ed_cmp (od_eq hr.units) (FD.ed (fd_blt (cf_sorted (units65 hr)) rfl B.sorted (by decide +kernel) (ad_cons (dv 5) ad_nil))) (FD.ed (fd_blt (cf_sorted (units65 hr)) rfl B.sorted (by decide +kernel) (ad_cons (dv 15) ad_nil))) (nomark _)) (nomark _)) (tw_or (TWD.td (tw_and (td_of (dv 17)) (tw_and1 (td_cmp (od_ne hr.units) (ed_blt cd_len rfl B.len (by decide +kernel) (ad_cons (ed_call G_points_agreeing C (hr.mono (by decide)) rfl (ad_cons (dv 3) (ad_cons (dv 5) (ad_cons (ed_bltT cd_tuple rfl B.tuple (by decide +kernel) (ad_cons (dv 15) ad_nil)) ad_nil)))) ad_nil)) (dv 3) (nomark _))))) (tw_or1 (TWD.td (tw_and (td_of (dv 9)) (tw_and1 (td_not (td_of (dv 17)))))))))) (sds_one (sd_ret ed_bl)) sds_nil))) sds_nil))))))))))))))))))))
    (sds_one (sd_ret ed_bl))))
end
end LW

set_option Elab.async false
set_option linter.all false
set_option maxRecDepth 100000
set_option maxHeartbeats 4000000
namespace LW
open PySem PySem.Spec PyProof.Rows L2 DL LM
variable [TabsC] [KnOn]
section
variable {P : Program} {w : World} {K : PySem.W.Frag} {mg : Str → Option Value} {base : Heap} {CA : String → Addr}
theorem mo__law_gcd : MonoS S__law_gcd := by
  intro ds K1 K2 X1 X2 hk hx h
  unfold S__law_gcd at *
  try unfold Bad2 at *
  try unfold ErrPairs at *
  grind
theorem len__law_gcd (ds : List D) (Kr : D → Prop) (Kx : String → Prop) (h : S__law_gcd ds Kr Kx) : ds.length = 2 := by
  unfold S__law_gcd at h
  try unfold ErrPairs at h
  grind
theorem dfn__law_gcd (B : Bl mg) {f : Addr} {fd : FuncData} (F : Fun K "_law_gcd" "_law_gcd" st__law_gcd f fd) (hm : mg "_law_gcd" = some (.ref f)) : DFn P w K mg base CA 1 "_law_gcd" S__law_gcd :=
  dfn_ok F sc__law_gcd hm (F.binds fun _ _ _ _ _ _ us hl => match us, hl with | [_, _], _ => rfl) mo__law_gcd len__law_gcd (fun cdv A outer s H E hr C => der__law_gcd B cdv A outer s H E hr C) rd__law_gcd
theorem mo__law_frac : MonoS S__law_frac := by
  intro ds K1 K2 X1 X2 hk hx h
  unfold S__law_frac at *
  try unfold Bad2 at *
  try unfold ErrPairs at *
  grind
theorem len__law_frac (ds : List D) (Kr : D → Prop) (Kx : String → Prop) (h : S__law_frac ds Kr Kx) : ds.length = 2 := by
  unfold S__law_frac at h
  try unfold ErrPairs at h
  grind
theorem dfn__law_frac (B : Bl mg) (G__law_gcd : DFn P w K mg base CA 1 "_law_gcd" S__law_gcd) {f : Addr} {fd : FuncData} (F : Fun K "_law_frac" "_law_frac" st__law_frac f fd) (hm : mg "_law_frac" = some (.ref f)) : DFn P w K mg base CA 2 "_law_frac" S__law_frac :=
  dfn_ok F sc__law_frac hm (F.binds fun _ _ _ _ _ _ us hl => match us, hl with | [_, _], _ => rfl) mo__law_frac len__law_frac (fun cdv A outer s H E hr C => der__law_frac B G__law_gcd cdv A outer s H E hr C) rd__law_frac
theorem mo__law_hand : MonoS S__law_hand := by
  intro ds K1 K2 X1 X2 hk hx h
  unfold S__law_hand at *
  try unfold Bad2 at *
  try unfold ErrPairs at *
  grind
theorem len__law_hand (ds : List D) (Kr : D → Prop) (Kx : String → Prop) (h : S__law_hand ds Kr Kx) : ds.length = 1 := by
  unfold S__law_hand at h
  try unfold ErrPairs at h
  grind
theorem dfn__law_hand (B : Bl mg) {f : Addr} {fd : FuncData} (F : Fun K "_law_hand" "_law_hand" st__law_hand f fd) (hm : mg "_law_hand" = some (.ref f)) : DFn P w K mg base CA 1 "_law_hand" S__law_hand :=
  dfn_ok F sc__law_hand hm (F.binds fun _ _ _ _ _ _ us hl => match us, hl with | [_], _ => rfl) mo__law_hand len__law_hand (fun cdv A outer s H E hr C => der__law_hand B cdv A outer s H E hr C) rd__law_hand
theorem len__law_kept (k : Nat) (ds : List D) (Kr : D → Prop) (Kx : String → Prop) (h : S_keptN k ds Kr Kx) : ds.length = 2 := by
  obtain ⟨d, rfl, _⟩ := h
  rfl
theorem mo__law_kept (k : Nat) : MonoS (S_keptN k) := fun ds K1 K2 X1 X2 hk _ ⟨d, a, b, h⟩ => ⟨d, a, b, hk _ h⟩
theorem dfn__law_kept (B : Bl mg) {f : Addr} {fd : FuncData} (F : Fun K "_law_kept" "_law_kept" st__law_kept f fd) (hm : mg "_law_kept" = some (.ref f)) : DFn P w K mg base CA 5 "_law_kept" S__law_kept := by
  have hb : Binds K fd ["told", "due"] [] := (F.binds fun _ _ _ _ _ _ us hl => match us, hl with | [_, _], _ => rfl)
  have z : DFn P w K mg base CA 0 "_law_kept" (fun _ _ _ => False) := ⟨⟨f, fd, ["told", "due"], ⟨fun vs H Q E ⟨Hf, Hh, Hx, ds, p, r, h⟩ => h.elim, fun A outer s H args us vs Q E hr e0 hb r hsp => by obtain ⟨Hf, Hh, Hx, ds, p, r, h⟩ := hsp; exact h.elim⟩, hm, F.kp, hb⟩, fun _ _ _ _ _ _ _ h => h⟩
  have step : ∀ k, DFn P w K mg base CA (k + 1) "_law_kept" (S_keptN k) := by
    intro k
    induction k with
    | zero => exact dfn_ok F sc__law_kept hm hb (mo__law_kept 0) (len__law_kept 0) (fun cdv A outer s H E hr C => der__law_kept B z cdv A outer s H E hr C) rd0__law_kept
    | succ k ih => exact dfn_ok F sc__law_kept hm hb (mo__law_kept (k + 1)) (len__law_kept (k + 1)) (fun cdv A outer s H E hr C => der__law_kept B ih cdv A outer s H E hr C) (rd__law_kept k)
  exact step 4
theorem mo__law_mixed : MonoS S__law_mixed := by
  intro ds K1 K2 X1 X2 hk hx h
  unfold S__law_mixed at *
  try unfold Bad2 at *
  try unfold ErrPairs at *
  grind
theorem len__law_mixed (ds : List D) (Kr : D → Prop) (Kx : String → Prop) (h : S__law_mixed ds Kr Kx) : ds.length = 2 := by
  unfold S__law_mixed at h
  try unfold ErrPairs at h
  grind
theorem dfn__law_mixed (B : Bl mg) (G__law_draw : DFn P w K mg base CA 1 "_law_draw" S__law_draw) {f : Addr} {fd : FuncData} (F : Fun K "_law_mixed" "_law_mixed" st__law_mixed f fd) (hm : mg "_law_mixed" = some (.ref f)) : DFn P w K mg base CA 2 "_law_mixed" S__law_mixed :=
  dfn_ok F sc__law_mixed hm (F.binds fun _ _ _ _ _ _ us hl => match us, hl with | [_, _], _ => rfl) mo__law_mixed len__law_mixed (fun cdv A outer s H E hr C => der__law_mixed B G__law_draw cdv A outer s H E hr C) rd__law_mixed
theorem mo__law_numbers : MonoS S__law_numbers := by
  intro ds K1 K2 X1 X2 hk hx h
  unfold S__law_numbers at *
  try unfold Bad2 at *
  try unfold ErrPairs at *
  grind
theorem len__law_numbers (ds : List D) (Kr : D → Prop) (Kx : String → Prop) (h : S__law_numbers ds Kr Kx) : ds.length = 3 := by
  unfold S__law_numbers at h
  try unfold ErrPairs at h
  grind
theorem dfn__law_numbers (B : Bl mg) (G__law_draw : DFn P w K mg base CA 1 "_law_draw" S__law_draw) {f : Addr} {fd : FuncData} (F : Fun K "_law_numbers" "_law_numbers" st__law_numbers f fd) (hm : mg "_law_numbers" = some (.ref f)) : DFn P w K mg base CA 2 "_law_numbers" S__law_numbers :=
  dfn_ok F sc__law_numbers hm (F.binds fun _ _ _ _ _ _ us hl => match us, hl with | [_, _, _], _ => rfl) mo__law_numbers len__law_numbers (fun cdv A outer s H E hr C => der__law_numbers B G__law_draw cdv A outer s H E hr C) rd__law_numbers
theorem mo__law_some : MonoS S__law_some := by
  intro ds K1 K2 X1 X2 hk hx h
  unfold S__law_some at *
  try unfold Bad2 at *
  try unfold ErrPairs at *
  grind
theorem len__law_some (ds : List D) (Kr : D → Prop) (Kx : String → Prop) (h : S__law_some ds Kr Kx) : ds.length = 2 := by
  unfold S__law_some at h
  try unfold ErrPairs at h
  grind
theorem dfn__law_some (B : Bl mg) (G__law_draw : DFn P w K mg base CA 1 "_law_draw" S__law_draw) {f : Addr} {fd : FuncData} (F : Fun K "_law_some" "_law_some" st__law_some f fd) (hm : mg "_law_some" = some (.ref f)) : DFn P w K mg base CA 2 "_law_some" S__law_some :=
  dfn_ok F sc__law_some hm (F.binds fun _ _ _ _ _ _ us hl => match us, hl with | [_, _], _ => rfl) mo__law_some len__law_some (fun cdv A outer s H E hr C => der__law_some B G__law_draw cdv A outer s H E hr C) rd__law_some
theorem mo__law_inverse : MonoS S__law_inverse := by
  intro ds K1 K2 X1 X2 hk hx h
  unfold S__law_inverse at *
  try unfold Bad2 at *
  try unfold ErrPairs at *
  grind
theorem len__law_inverse (ds : List D) (Kr : D → Prop) (Kx : String → Prop) (h : S__law_inverse ds Kr Kx) : ds.length = 2 := by
  unfold S__law_inverse at h
  try unfold ErrPairs at h
  grind
theorem dfn__law_inverse (B : Bl mg) {f : Addr} {fd : FuncData} (F : Fun K "_law_inverse" "_law_inverse" st__law_inverse f fd) (hm : mg "_law_inverse" = some (.ref f)) : DFn P w K mg base CA 1 "_law_inverse" S__law_inverse :=
  dfn_ok F sc__law_inverse hm (F.binds fun _ _ _ _ _ _ us hl => match us, hl with | [_, _], _ => rfl) mo__law_inverse len__law_inverse (fun cdv A outer s H E hr C => der__law_inverse B cdv A outer s H E hr C) rd__law_inverse
theorem mo__law_sums : MonoS S__law_sums := by
  intro ds K1 K2 X1 X2 hk hx h
  unfold S__law_sums at *
  try unfold Bad2 at *
  try unfold ErrPairs at *
  grind
theorem len__law_sums (ds : List D) (Kr : D → Prop) (Kx : String → Prop) (h : S__law_sums ds Kr Kx) : ds.length = 5 := by
  unfold S__law_sums at h
  try unfold ErrPairs at h
  grind
theorem dfn__law_sums (B : Bl mg) (G__law_inverse : DFn P w K mg base CA 1 "_law_inverse" S__law_inverse) {f : Addr} {fd : FuncData} (F : Fun K "_law_sums" "_law_sums" st__law_sums f fd) (hm : mg "_law_sums" = some (.ref f)) : DFn P w K mg base CA 2 "_law_sums" S__law_sums :=
  dfn_ok F sc__law_sums hm (F.binds fun _ _ _ _ _ _ us hl => match us, hl with | [_, _, _, _, _], _ => rfl) mo__law_sums len__law_sums (fun cdv A outer s H E hr C => der__law_sums B G__law_inverse cdv A outer s H E hr C) rd__law_sums
theorem mo_is_integer : MonoS S_is_integer := by
  intro ds K1 K2 X1 X2 hk hx h
  unfold S_is_integer at *
  try unfold Bad2 at *
  try unfold ErrPairs at *
  grind
theorem len_is_integer (ds : List D) (Kr : D → Prop) (Kx : String → Prop) (h : S_is_integer ds Kr Kx) : ds.length = 1 := by
  unfold S_is_integer at h
  try unfold ErrPairs at h
  grind
theorem dfn_is_integer (B : Bl mg) {f : Addr} {fd : FuncData} (F : Fun K "is_integer" "is_integer" st_is_integer f fd) (hm : mg "is_integer" = some (.ref f)) : DFn P w K mg base CA 1 "is_integer" S_is_integer :=
  dfn_ok F sc_is_integer hm (F.binds fun _ _ _ _ _ _ us hl => match us, hl with | [_], _ => rfl) mo_is_integer len_is_integer (fun cdv A outer s H E hr C => der_is_integer B cdv A outer s H E hr C) rd_is_integer
theorem mo_is_between : MonoS S_is_between := by
  intro ds K1 K2 X1 X2 hk hx h
  unfold S_is_between at *
  try unfold Bad2 at *
  try unfold ErrPairs at *
  grind
theorem len_is_between (ds : List D) (Kr : D → Prop) (Kx : String → Prop) (h : S_is_between ds Kr Kx) : ds.length = 3 := by
  unfold S_is_between at h
  try unfold ErrPairs at h
  grind
theorem dfn_is_between (B : Bl mg) (G_is_integer : DFn P w K mg base CA 1 "is_integer" S_is_integer) {f : Addr} {fd : FuncData} (F : Fun K "is_between" "is_between" st_is_between f fd) (hm : mg "is_between" = some (.ref f)) : DFn P w K mg base CA 2 "is_between" S_is_between :=
  dfn_ok F sc_is_between hm (F.binds fun _ _ _ _ _ _ us hl => match us, hl with | [_, _, _], _ => rfl) mo_is_between len_is_between (fun cdv A outer s H E hr C => der_is_between B G_is_integer cdv A outer s H E hr C) rd_is_between
theorem mo_is_number : MonoS S_is_number := by
  intro ds K1 K2 X1 X2 hk hx h
  unfold S_is_number at *
  try unfold Bad2 at *
  try unfold ErrPairs at *
  grind
theorem len_is_number (ds : List D) (Kr : D → Prop) (Kx : String → Prop) (h : S_is_number ds Kr Kx) : ds.length = 2 := by
  unfold S_is_number at h
  try unfold ErrPairs at h
  grind
theorem dfn_is_number (B : Bl mg) (G_is_between : DFn P w K mg base CA 2 "is_between" S_is_between) {f : Addr} {fd : FuncData} (F : Fun K "is_number" "is_number" st_is_number f fd) (hm : mg "is_number" = some (.ref f)) : DFn P w K mg base CA 3 "is_number" S_is_number :=
  dfn_ok F sc_is_number hm (F.binds fun _ _ _ _ _ _ us hl => match us, hl with | [_, _], _ => rfl) mo_is_number len_is_number (fun cdv A outer s H E hr C => der_is_number B G_is_between cdv A outer s H E hr C) rd_is_number
theorem mo_is_numbers : MonoS S_is_numbers := by
  intro ds K1 K2 X1 X2 hk hx h
  unfold S_is_numbers at *
  try unfold Bad2 at *
  try unfold ErrPairs at *
  grind
theorem len_is_numbers (ds : List D) (Kr : D → Prop) (Kx : String → Prop) (h : S_is_numbers ds Kr Kx) : ds.length = 2 := by
  unfold S_is_numbers at h
  try unfold ErrPairs at h
  grind
theorem dfn_is_numbers (B : Bl mg) (G_is_number : DFn P w K mg base CA 3 "is_number" S_is_number) (Cn : Consts K mg) {f : Addr} {fd : FuncData} (F : Fun K "is_numbers" "is_numbers" st_is_numbers f fd) (hm : mg "is_numbers" = some (.ref f)) : DFn P w K mg base CA 4 "is_numbers" S_is_numbers :=
  dfn_ok F sc_is_numbers hm (F.binds fun _ _ _ _ _ _ us hl => match us, hl with | [_, _], _ => rfl) mo_is_numbers len_is_numbers (fun cdv A outer s H E hr C => der_is_numbers B G_is_number Cn cdv A outer s H E hr C) rd_is_numbers
theorem mo_is_prime : MonoS S_is_prime := by
  intro ds K1 K2 X1 X2 hk hx h
  unfold S_is_prime at *
  try unfold Bad2 at *
  try unfold ErrPairs at *
  grind
theorem len_is_prime (ds : List D) (Kr : D → Prop) (Kx : String → Prop) (h : S_is_prime ds Kr Kx) : ds.length = 1 := by
  unfold S_is_prime at h
  try unfold ErrPairs at h
  grind
theorem dfn_is_prime (B : Bl mg) (G_is_between : DFn P w K mg base CA 2 "is_between" S_is_between) (Cn : Consts K mg) {f : Addr} {fd : FuncData} (F : Fun K "is_prime" "is_prime" st_is_prime f fd) (hm : mg "is_prime" = some (.ref f)) : DFn P w K mg base CA 3 "is_prime" S_is_prime :=
  dfn_ok F sc_is_prime hm (F.binds fun _ _ _ _ _ _ us hl => match us, hl with | [_], _ => rfl) mo_is_prime len_is_prime (fun cdv A outer s H E hr C => der_is_prime B G_is_between Cn cdv A outer s H E hr C) rd_is_prime
theorem mo_need_prime : MonoS S_need_prime := by
  intro ds K1 K2 X1 X2 hk hx h
  unfold S_need_prime at *
  try unfold Bad2 at *
  try unfold ErrPairs at *
  grind
theorem len_need_prime (ds : List D) (Kr : D → Prop) (Kx : String → Prop) (h : S_need_prime ds Kr Kx) : ds.length = 1 := by
  unfold S_need_prime at h
  try unfold ErrPairs at h
  grind
theorem dfn_need_prime (B : Bl mg) (G_is_prime : DFn P w K mg base CA 3 "is_prime" S_is_prime) (Ex_NoPrime : ExcF K mg CA "NoPrime" veBM) {f : Addr} {fd : FuncData} (F : Fun K "need_prime" "need_prime" st_need_prime f fd) (hm : mg "need_prime" = some (.ref f)) : DFn P w K mg base CA 4 "need_prime" S_need_prime :=
  dfn_ok F sc_need_prime hm (F.binds fun _ _ _ _ _ _ us hl => match us, hl with | [_], _ => rfl) mo_need_prime len_need_prime (fun cdv A outer s H E hr C => der_need_prime B G_is_prime Ex_NoPrime cdv A outer s H E hr C) rd_need_prime
theorem mo_need_rows_checklots : MonoS S_need_rows_checklots := by
  intro ds K1 K2 X1 X2 hk hx h
  unfold S_need_rows_checklots at *
  try unfold Bad2 at *
  try unfold ErrPairs at *
  grind
theorem len_need_rows_checklots (ds : List D) (Kr : D → Prop) (Kx : String → Prop) (h : S_need_rows_checklots ds Kr Kx) : ds.length = 3 := by
  unfold S_need_rows_checklots at h
  try unfold ErrPairs at h
  grind
theorem dfn_need_rows_checklots (B : Bl mg) (G_is_numbers : DFn P w K mg base CA 4 "is_numbers" S_is_numbers) (G_need_prime : DFn P w K mg base CA 4 "need_prime" S_need_prime) (Ex_NoRow : ExcF K mg CA "NoRow" veBM) {f : Addr} {fd : FuncData} (F : Fun K "need_rows" "need_rows" st_need_rows_checklots f fd) (hm : mg "need_rows_checklots" = some (.ref f)) : DFn P w K mg base CA 5 "need_rows_checklots" S_need_rows_checklots :=
  dfn_okA F sc_need_rows_checklots hm (F.binds fun _ _ _ _ _ _ us hl => match us, hl with | [_, _, _], _ => rfl) mo_need_rows_checklots len_need_rows_checklots (fun cdv A outer s H E hr C => der_need_rows_checklots B G_is_numbers G_need_prime Ex_NoRow cdv A outer s H E hr C) rd_need_rows_checklots
theorem mo_are_one_lot : MonoS S_are_one_lot := by
  intro ds K1 K2 X1 X2 hk hx h
  unfold S_are_one_lot at *
  try unfold Bad2 at *
  try unfold ErrPairs at *
  grind
theorem len_are_one_lot (ds : List D) (Kr : D → Prop) (Kx : String → Prop) (h : S_are_one_lot ds Kr Kx) : ds.length = 3 := by
  unfold S_are_one_lot at h
  try unfold ErrPairs at h
  grind
theorem dfn_are_one_lot (B : Bl mg) (G_need_rows_checklots : DFn P w K mg base CA 5 "need_rows_checklots" S_need_rows_checklots) {f : Addr} {fd : FuncData} (F : Fun K "are_one_lot" "are_one_lot" st_are_one_lot f fd) (hm : mg "are_one_lot" = some (.ref f)) : DFn P w K mg base CA 6 "are_one_lot" S_are_one_lot :=
  dfn_ok F sc_are_one_lot hm (F.binds fun _ _ _ _ _ _ us hl => match us, hl with | [_, _, _], _ => rfl) mo_are_one_lot len_are_one_lot (fun cdv A outer s H E hr C => der_are_one_lot B G_need_rows_checklots cdv A outer s H E hr C) rd_are_one_lot
theorem mo_need_rows_lookups : MonoS S_need_rows_lookups := by
  intro ds K1 K2 X1 X2 hk hx h
  unfold S_need_rows_lookups at *
  try unfold Bad2 at *
  try unfold ErrPairs at *
  grind
theorem len_need_rows_lookups (ds : List D) (Kr : D → Prop) (Kx : String → Prop) (h : S_need_rows_lookups ds Kr Kx) : ds.length = 3 := by
  unfold S_need_rows_lookups at h
  try unfold ErrPairs at h
  grind
theorem dfn_need_rows_lookups (B : Bl mg) (G_is_number : DFn P w K mg base CA 3 "is_number" S_is_number) (G_need_prime : DFn P w K mg base CA 4 "need_prime" S_need_prime) (Ex_NoRow : ExcF K mg CA "NoRow" veBM) (Cn : Consts K mg) {f : Addr} {fd : FuncData} (F : Fun K "need_rows" "need_rows" st_need_rows_lookups f fd) (hm : mg "need_rows_lookups" = some (.ref f)) : DFn P w K mg base CA 5 "need_rows_lookups" S_need_rows_lookups :=
  dfn_okA F sc_need_rows_lookups hm (F.binds fun _ _ _ _ _ _ us hl => match us, hl with | [_, _, _], _ => rfl) mo_need_rows_lookups len_need_rows_lookups (fun cdv A outer s H E hr C => der_need_rows_lookups B G_is_number G_need_prime Ex_NoRow Cn cdv A outer s H E hr C) rd_need_rows_lookups
theorem mo_need_counts : MonoS S_need_counts := by
  intro ds K1 K2 X1 X2 hk hx h
  unfold S_need_counts at *
  try unfold Bad2 at *
  try unfold ErrPairs at *
  grind
theorem len_need_counts (ds : List D) (Kr : D → Prop) (Kx : String → Prop) (h : S_need_counts ds Kr Kx) : ds.length = 4 := by
  unfold S_need_counts at h
  try unfold ErrPairs at h
  grind
theorem dfn_need_counts (B : Bl mg) (G_is_number : DFn P w K mg base CA 3 "is_number" S_is_number) (G_need_rows_lookups : DFn P w K mg base CA 5 "need_rows_lookups" S_need_rows_lookups) (Ex_NoNumber : ExcF K mg CA "NoNumber" veBM) {f : Addr} {fd : FuncData} (F : Fun K "need_counts" "need_counts" st_need_counts f fd) (hm : mg "need_counts" = some (.ref f)) : DFn P w K mg base CA 6 "need_counts" S_need_counts :=
  dfn_ok F sc_need_counts hm (F.binds fun _ _ _ _ _ _ us hl => match us, hl with | [_, _, _, _], _ => rfl) mo_need_counts len_need_counts (fun cdv A outer s H E hr C => der_need_counts B G_is_number G_need_rows_lookups Ex_NoNumber cdv A outer s H E hr C) rd_need_counts
theorem mo_power_of : MonoS S_power_of := by
  intro ds K1 K2 X1 X2 hk hx h
  unfold S_power_of at *
  try unfold Bad2 at *
  try unfold ErrPairs at *
  grind
theorem len_power_of (ds : List D) (Kr : D → Prop) (Kx : String → Prop) (h : S_power_of ds Kr Kx) : ds.length = 3 := by
  unfold S_power_of at h
  try unfold ErrPairs at h
  grind
theorem dfn_power_of (B : Bl mg) {f : Addr} {fd : FuncData} (F : Fun K "power_of" "power_of" st_power_of f fd) (hm : mg "power_of" = some (.ref f)) : DFn P w K mg base CA 1 "power_of" S_power_of :=
  dfn_ok F sc_power_of hm (F.binds fun _ _ _ _ _ _ us hl => match us, hl with | [_, _, _], _ => rfl) mo_power_of len_power_of (fun cdv A outer s H E hr C => der_power_of B cdv A outer s H E hr C) rd_power_of
theorem mo_inverse_of : MonoS S_inverse_of := by
  intro ds K1 K2 X1 X2 hk hx h
  unfold S_inverse_of at *
  try unfold Bad2 at *
  try unfold ErrPairs at *
  grind
theorem len_inverse_of (ds : List D) (Kr : D → Prop) (Kx : String → Prop) (h : S_inverse_of ds Kr Kx) : ds.length = 2 := by
  unfold S_inverse_of at h
  try unfold ErrPairs at h
  grind
theorem dfn_inverse_of (B : Bl mg) (G_power_of : DFn P w K mg base CA 1 "power_of" S_power_of) {f : Addr} {fd : FuncData} (F : Fun K "inverse_of" "inverse_of" st_inverse_of f fd) (hm : mg "inverse_of" = some (.ref f)) : DFn P w K mg base CA 2 "inverse_of" S_inverse_of :=
  dfn_ok F sc_inverse_of hm (F.binds fun _ _ _ _ _ _ us hl => match us, hl with | [_, _], _ => rfl) mo_inverse_of len_inverse_of (fun cdv A outer s H E hr C => der_inverse_of B G_power_of cdv A outer s H E hr C) rd_inverse_of
theorem mo_sums_at : MonoS S_sums_at := by
  intro ds K1 K2 X1 X2 hk hx h
  unfold S_sums_at at *
  try unfold Bad2 at *
  try unfold ErrPairs at *
  grind
theorem len_sums_at (ds : List D) (Kr : D → Prop) (Kx : String → Prop) (h : S_sums_at ds Kr Kx) : ds.length = 5 := by
  unfold S_sums_at at h
  try unfold ErrPairs at h
  grind
theorem dfn_sums_at (B : Bl mg) (G_inverse_of : DFn P w K mg base CA 2 "inverse_of" S_inverse_of) {f : Addr} {fd : FuncData} (F : Fun K "sums_at" "sums_at" st_sums_at f fd) (hm : mg "sums_at" = some (.ref f)) : DFn P w K mg base CA 3 "sums_at" S_sums_at :=
  dfn_ok F sc_sums_at hm (F.binds fun _ _ _ _ _ _ us hl => match us, hl with | [_, _, _, _, _], _ => rfl) mo_sums_at len_sums_at (fun cdv A outer s H E hr C => der_sums_at B G_inverse_of cdv A outer s H E hr C) rd_sums_at
theorem mo_check_at : MonoS S_check_at := by
  intro ds K1 K2 X1 X2 hk hx h
  unfold S_check_at at *
  try unfold Bad2 at *
  try unfold ErrPairs at *
  grind
theorem len_check_at (ds : List D) (Kr : D → Prop) (Kx : String → Prop) (h : S_check_at ds Kr Kx) : ds.length = 5 := by
  unfold S_check_at at h
  try unfold ErrPairs at h
  grind
theorem dfn_check_at (B : Bl mg) (G_is_number : DFn P w K mg base CA 3 "is_number" S_is_number) (G_need_counts : DFn P w K mg base CA 6 "need_counts" S_need_counts) (G_sums_at : DFn P w K mg base CA 3 "sums_at" S_sums_at) (Ex_NoPoint : ExcF K mg CA "NoPoint" veBM) {f : Addr} {fd : FuncData} (F : Fun K "check_at" "check_at" st_check_at f fd) (hm : mg "check_at" = some (.ref f)) : DFn P w K mg base CA 7 "check_at" S_check_at :=
  dfn_ok F sc_check_at hm (F.binds fun _ _ _ _ _ _ us hl => match us, hl with | [_, _, _, _, _], _ => rfl) mo_check_at len_check_at (fun cdv A outer s H E hr C => der_check_at B G_is_number G_need_counts G_sums_at Ex_NoPoint cdv A outer s H E hr C) rd_check_at
theorem mo_trimmed : MonoS S_trimmed := by
  intro ds K1 K2 X1 X2 hk hx h
  unfold S_trimmed at *
  try unfold Bad2 at *
  try unfold ErrPairs at *
  grind
theorem len_trimmed (ds : List D) (Kr : D → Prop) (Kx : String → Prop) (h : S_trimmed ds Kr Kx) : ds.length = 1 := by
  unfold S_trimmed at h
  try unfold ErrPairs at h
  grind
theorem dfn_trimmed (B : Bl mg) {f : Addr} {fd : FuncData} (F : Fun K "trimmed" "trimmed" st_trimmed f fd) (hm : mg "trimmed" = some (.ref f)) : DFn P w K mg base CA 1 "trimmed" S_trimmed :=
  dfn_ok F sc_trimmed hm (F.binds fun _ _ _ _ _ _ us hl => match us, hl with | [_], _ => rfl) mo_trimmed len_trimmed (fun cdv A outer s H E hr C => der_trimmed B cdv A outer s H E hr C) rd_trimmed
theorem mo_times_lines : MonoS S_times_lines := by
  intro ds K1 K2 X1 X2 hk hx h
  unfold S_times_lines at *
  try unfold Bad2 at *
  try unfold ErrPairs at *
  grind
theorem len_times_lines (ds : List D) (Kr : D → Prop) (Kx : String → Prop) (h : S_times_lines ds Kr Kx) : ds.length = 3 := by
  unfold S_times_lines at h
  try unfold ErrPairs at h
  grind
theorem dfn_times_lines (B : Bl mg) (G_trimmed : DFn P w K mg base CA 1 "trimmed" S_trimmed) {f : Addr} {fd : FuncData} (F : Fun K "times_lines" "times_lines" st_times_lines f fd) (hm : mg "times_lines" = some (.ref f)) : DFn P w K mg base CA 2 "times_lines" S_times_lines :=
  dfn_ok F sc_times_lines hm (F.binds fun _ _ _ _ _ _ us hl => match us, hl with | [_, _, _], _ => rfl) mo_times_lines len_times_lines (fun cdv A outer s H E hr C => der_times_lines B G_trimmed cdv A outer s H E hr C) rd_times_lines
theorem mo_line_of_roots : MonoS S_line_of_roots := by
  intro ds K1 K2 X1 X2 hk hx h
  unfold S_line_of_roots at *
  try unfold Bad2 at *
  try unfold ErrPairs at *
  grind
theorem len_line_of_roots (ds : List D) (Kr : D → Prop) (Kx : String → Prop) (h : S_line_of_roots ds Kr Kx) : ds.length = 2 := by
  unfold S_line_of_roots at h
  try unfold ErrPairs at h
  grind
theorem dfn_line_of_roots (B : Bl mg) (G_is_number : DFn P w K mg base CA 3 "is_number" S_is_number) (G_need_prime : DFn P w K mg base CA 4 "need_prime" S_need_prime) (G_times_lines : DFn P w K mg base CA 2 "times_lines" S_times_lines) (Ex_NoPoints : ExcF K mg CA "NoPoints" veBM) (Cn : Consts K mg) {f : Addr} {fd : FuncData} (F : Fun K "line_of_roots" "line_of_roots" st_line_of_roots f fd) (hm : mg "line_of_roots" = some (.ref f)) : DFn P w K mg base CA 5 "line_of_roots" S_line_of_roots :=
  dfn_ok F sc_line_of_roots hm (F.binds fun _ _ _ _ _ _ us hl => match us, hl with | [_, _], _ => rfl) mo_line_of_roots len_line_of_roots (fun cdv A outer s H E hr C => der_line_of_roots B G_is_number G_need_prime G_times_lines Ex_NoPoints Cn cdv A outer s H E hr C) rd_line_of_roots
theorem mo_plus_lines : MonoS S_plus_lines := by
  intro ds K1 K2 X1 X2 hk hx h
  unfold S_plus_lines at *
  try unfold Bad2 at *
  try unfold ErrPairs at *
  grind
theorem len_plus_lines (ds : List D) (Kr : D → Prop) (Kx : String → Prop) (h : S_plus_lines ds Kr Kx) : ds.length = 3 := by
  unfold S_plus_lines at h
  try unfold ErrPairs at h
  grind
theorem dfn_plus_lines (B : Bl mg) (G_trimmed : DFn P w K mg base CA 1 "trimmed" S_trimmed) {f : Addr} {fd : FuncData} (F : Fun K "plus_lines" "plus_lines" st_plus_lines f fd) (hm : mg "plus_lines" = some (.ref f)) : DFn P w K mg base CA 2 "plus_lines" S_plus_lines :=
  dfn_ok F sc_plus_lines hm (F.binds fun _ _ _ _ _ _ us hl => match us, hl with | [_, _, _], _ => rfl) mo_plus_lines len_plus_lines (fun cdv A outer s H E hr C => der_plus_lines B G_trimmed cdv A outer s H E hr C) rd_plus_lines
theorem mo_scaled_line : MonoS S_scaled_line := by
  intro ds K1 K2 X1 X2 hk hx h
  unfold S_scaled_line at *
  try unfold Bad2 at *
  try unfold ErrPairs at *
  grind
theorem len_scaled_line (ds : List D) (Kr : D → Prop) (Kx : String → Prop) (h : S_scaled_line ds Kr Kx) : ds.length = 3 := by
  unfold S_scaled_line at h
  try unfold ErrPairs at h
  grind
theorem dfn_scaled_line (B : Bl mg) (G_trimmed : DFn P w K mg base CA 1 "trimmed" S_trimmed) {f : Addr} {fd : FuncData} (F : Fun K "scaled_line" "scaled_line" st_scaled_line f fd) (hm : mg "scaled_line" = some (.ref f)) : DFn P w K mg base CA 2 "scaled_line" S_scaled_line :=
  dfn_ok F sc_scaled_line hm (F.binds fun _ _ _ _ _ _ us hl => match us, hl with | [_, _, _], _ => rfl) mo_scaled_line len_scaled_line (fun cdv A outer s H E hr C => der_scaled_line B G_trimmed cdv A outer s H E hr C) rd_scaled_line
theorem mo_sum_line : MonoS S_sum_line := by
  intro ds K1 K2 X1 X2 hk hx h
  unfold S_sum_line at *
  try unfold Bad2 at *
  try unfold ErrPairs at *
  grind
theorem len_sum_line (ds : List D) (Kr : D → Prop) (Kx : String → Prop) (h : S_sum_line ds Kr Kx) : ds.length = 3 := by
  unfold S_sum_line at h
  try unfold ErrPairs at h
  grind
theorem dfn_sum_line (B : Bl mg) (G_line_of_roots : DFn P w K mg base CA 5 "line_of_roots" S_line_of_roots) (G_plus_lines : DFn P w K mg base CA 2 "plus_lines" S_plus_lines) (G_scaled_line : DFn P w K mg base CA 2 "scaled_line" S_scaled_line) {f : Addr} {fd : FuncData} (F : Fun K "sum_line" "sum_line" st_sum_line f fd) (hm : mg "sum_line" = some (.ref f)) : DFn P w K mg base CA 6 "sum_line" S_sum_line :=
  dfn_ok F sc_sum_line hm (F.binds fun _ _ _ _ _ _ us hl => match us, hl with | [_, _, _], _ => rfl) mo_sum_line len_sum_line (fun cdv A outer s H E hr C => der_sum_line B G_line_of_roots G_plus_lines G_scaled_line cdv A outer s H E hr C) rd_sum_line
theorem mo_lack_line : MonoS S_lack_line := by
  intro ds K1 K2 X1 X2 hk hx h
  unfold S_lack_line at *
  try unfold Bad2 at *
  try unfold ErrPairs at *
  grind
theorem len_lack_line (ds : List D) (Kr : D → Prop) (Kx : String → Prop) (h : S_lack_line ds Kr Kx) : ds.length = 4 := by
  unfold S_lack_line at h
  try unfold ErrPairs at h
  grind
theorem dfn_lack_line (B : Bl mg) (G_line_of_roots : DFn P w K mg base CA 5 "line_of_roots" S_line_of_roots) (G_need_counts : DFn P w K mg base CA 6 "need_counts" S_need_counts) (G_plus_lines : DFn P w K mg base CA 2 "plus_lines" S_plus_lines) (G_scaled_line : DFn P w K mg base CA 2 "scaled_line" S_scaled_line) (G_sum_line : DFn P w K mg base CA 6 "sum_line" S_sum_line) (G_times_lines : DFn P w K mg base CA 2 "times_lines" S_times_lines) {f : Addr} {fd : FuncData} (F : Fun K "lack_line" "lack_line" st_lack_line f fd) (hm : mg "lack_line" = some (.ref f)) : DFn P w K mg base CA 7 "lack_line" S_lack_line :=
  dfn_ok F sc_lack_line hm (F.binds fun _ _ _ _ _ _ us hl => match us, hl with | [_, _, _, _], _ => rfl) mo_lack_line len_lack_line (fun cdv A outer s H E hr C => der_lack_line B G_line_of_roots G_need_counts G_plus_lines G_scaled_line G_sum_line G_times_lines cdv A outer s H E hr C) rd_lack_line
theorem mo_value_of : MonoS S_value_of := by
  intro ds K1 K2 X1 X2 hk hx h
  unfold S_value_of at *
  try unfold Bad2 at *
  try unfold ErrPairs at *
  grind
theorem len_value_of (ds : List D) (Kr : D → Prop) (Kx : String → Prop) (h : S_value_of ds Kr Kx) : ds.length = 3 := by
  unfold S_value_of at h
  try unfold ErrPairs at h
  grind
theorem dfn_value_of (B : Bl mg) {f : Addr} {fd : FuncData} (F : Fun K "value_of" "value_of" st_value_of f fd) (hm : mg "value_of" = some (.ref f)) : DFn P w K mg base CA 1 "value_of" S_value_of :=
  dfn_ok F sc_value_of hm (F.binds fun _ _ _ _ _ _ us hl => match us, hl with | [_, _, _], _ => rfl) mo_value_of len_value_of (fun cdv A outer s H E hr C => der_value_of B cdv A outer s H E hr C) rd_value_of
theorem mo_roots_of : MonoS S_roots_of := by
  intro ds K1 K2 X1 X2 hk hx h
  unfold S_roots_of at *
  try unfold Bad2 at *
  try unfold ErrPairs at *
  grind
theorem len_roots_of (ds : List D) (Kr : D → Prop) (Kx : String → Prop) (h : S_roots_of ds Kr Kx) : ds.length = 2 := by
  unfold S_roots_of at h
  try unfold ErrPairs at h
  grind
theorem dfn_roots_of (B : Bl mg) (G_value_of : DFn P w K mg base CA 1 "value_of" S_value_of) {f : Addr} {fd : FuncData} (F : Fun K "roots_of" "roots_of" st_roots_of f fd) (hm : mg "roots_of" = some (.ref f)) : DFn P w K mg base CA 2 "roots_of" S_roots_of :=
  dfn_ok F sc_roots_of hm (F.binds fun _ _ _ _ _ _ us hl => match us, hl with | [_, _], _ => rfl) mo_roots_of len_roots_of (fun cdv A outer s H E hr C => der_roots_of B G_value_of cdv A outer s H E hr C) rd_roots_of
theorem mo_false_passes : MonoS S_false_passes := by
  intro ds K1 K2 X1 X2 hk hx h
  unfold S_false_passes at *
  try unfold Bad2 at *
  try unfold ErrPairs at *
  grind
theorem len_false_passes (ds : List D) (Kr : D → Prop) (Kx : String → Prop) (h : S_false_passes ds Kr Kx) : ds.length = 4 := by
  unfold S_false_passes at h
  try unfold ErrPairs at h
  grind
theorem dfn_false_passes (B : Bl mg) (G_lack_line : DFn P w K mg base CA 7 "lack_line" S_lack_line) (G_roots_of : DFn P w K mg base CA 2 "roots_of" S_roots_of) {f : Addr} {fd : FuncData} (F : Fun K "false_passes" "false_passes" st_false_passes f fd) (hm : mg "false_passes" = some (.ref f)) : DFn P w K mg base CA 8 "false_passes" S_false_passes :=
  dfn_ok F sc_false_passes hm (F.binds fun _ _ _ _ _ _ us hl => match us, hl with | [_, _, _, _], _ => rfl) mo_false_passes len_false_passes (fun cdv A outer s H E hr C => der_false_passes B G_lack_line G_roots_of cdv A outer s H E hr C) rd_false_passes
theorem mo_is_looked_up : MonoS S_is_looked_up := by
  intro ds K1 K2 X1 X2 hk hx h
  unfold S_is_looked_up at *
  try unfold Bad2 at *
  try unfold ErrPairs at *
  grind
theorem len_is_looked_up (ds : List D) (Kr : D → Prop) (Kx : String → Prop) (h : S_is_looked_up ds Kr Kx) : ds.length = 4 := by
  unfold S_is_looked_up at h
  try unfold ErrPairs at h
  grind
theorem dfn_is_looked_up (B : Bl mg) (G_lack_line : DFn P w K mg base CA 7 "lack_line" S_lack_line) {f : Addr} {fd : FuncData} (F : Fun K "is_looked_up" "is_looked_up" st_is_looked_up f fd) (hm : mg "is_looked_up" = some (.ref f)) : DFn P w K mg base CA 8 "is_looked_up" S_is_looked_up :=
  dfn_ok F sc_is_looked_up hm (F.binds fun _ _ _ _ _ _ us hl => match us, hl with | [_, _, _, _], _ => rfl) mo_is_looked_up len_is_looked_up (fun cdv A outer s H E hr C => der_is_looked_up B G_lack_line cdv A outer s H E hr C) rd_is_looked_up
theorem mo_most_false : MonoS S_most_false := by
  intro ds K1 K2 X1 X2 hk hx h
  unfold S_most_false at *
  try unfold Bad2 at *
  try unfold ErrPairs at *
  grind
theorem len_most_false (ds : List D) (Kr : D → Prop) (Kx : String → Prop) (h : S_most_false ds Kr Kx) : ds.length = 3 := by
  unfold S_most_false at h
  try unfold ErrPairs at h
  grind
theorem dfn_most_false (B : Bl mg) (G_need_rows_lookups : DFn P w K mg base CA 5 "need_rows_lookups" S_need_rows_lookups) {f : Addr} {fd : FuncData} (F : Fun K "most_false" "most_false" st_most_false f fd) (hm : mg "most_false" = some (.ref f)) : DFn P w K mg base CA 6 "most_false" S_most_false :=
  dfn_ok F sc_most_false hm (F.binds fun _ _ _ _ _ _ us hl => match us, hl with | [_, _, _], _ => rfl) mo_most_false len_most_false (fun cdv A outer s H E hr C => der_most_false B G_need_rows_lookups cdv A outer s H E hr C) rd_most_false
theorem mo_passing : MonoS S_passing := by
  intro ds K1 K2 X1 X2 hk hx h
  unfold S_passing at *
  try unfold Bad2 at *
  try unfold ErrPairs at *
  grind
theorem len_passing (ds : List D) (Kr : D → Prop) (Kx : String → Prop) (h : S_passing ds Kr Kx) : ds.length = 4 := by
  unfold S_passing at h
  try unfold ErrPairs at h
  grind
theorem dfn_passing (B : Bl mg) (G_need_counts : DFn P w K mg base CA 6 "need_counts" S_need_counts) (G_sums_at : DFn P w K mg base CA 3 "sums_at" S_sums_at) {f : Addr} {fd : FuncData} (F : Fun K "passing" "passing" st_passing f fd) (hm : mg "passing" = some (.ref f)) : DFn P w K mg base CA 7 "passing" S_passing :=
  dfn_ok F sc_passing hm (F.binds fun _ _ _ _ _ _ us hl => match us, hl with | [_, _, _, _], _ => rfl) mo_passing len_passing (fun cdv A outer s H E hr C => der_passing B G_need_counts G_sums_at cdv A outer s H E hr C) rd_passing
theorem mo_common : MonoS S_common := by
  intro ds K1 K2 X1 X2 hk hx h
  unfold S_common at *
  try unfold Bad2 at *
  try unfold ErrPairs at *
  grind
theorem len_common (ds : List D) (Kr : D → Prop) (Kx : String → Prop) (h : S_common ds Kr Kx) : ds.length = 2 := by
  unfold S_common at h
  try unfold ErrPairs at h
  grind
theorem dfn_common (B : Bl mg) {f : Addr} {fd : FuncData} (F : Fun K "common" "common" st_common f fd) (hm : mg "common" = some (.ref f)) : DFn P w K mg base CA 1 "common" S_common :=
  dfn_ok F sc_common hm (F.binds fun _ _ _ _ _ _ us hl => match us, hl with | [_, _], _ => rfl) mo_common len_common (fun cdv A outer s H E hr C => der_common B cdv A outer s H E hr C) rd_common
theorem mo_fraction : MonoS S_fraction := by
  intro ds K1 K2 X1 X2 hk hx h
  unfold S_fraction at *
  try unfold Bad2 at *
  try unfold ErrPairs at *
  grind
theorem len_fraction (ds : List D) (Kr : D → Prop) (Kx : String → Prop) (h : S_fraction ds Kr Kx) : ds.length = 2 := by
  unfold S_fraction at h
  try unfold ErrPairs at h
  grind
theorem dfn_fraction (B : Bl mg) (G_common : DFn P w K mg base CA 1 "common" S_common) {f : Addr} {fd : FuncData} (F : Fun K "fraction" "fraction" st_fraction f fd) (hm : mg "fraction" = some (.ref f)) : DFn P w K mg base CA 2 "fraction" S_fraction :=
  dfn_ok F sc_fraction hm (F.binds fun _ _ _ _ _ _ us hl => match us, hl with | [_, _], _ => rfl) mo_fraction len_fraction (fun cdv A outer s H E hr C => der_fraction B G_common cdv A outer s H E hr C) rd_fraction
theorem mo_passing_share : MonoS S_passing_share := by
  intro ds K1 K2 X1 X2 hk hx h
  unfold S_passing_share at *
  try unfold Bad2 at *
  try unfold ErrPairs at *
  grind
theorem len_passing_share (ds : List D) (Kr : D → Prop) (Kx : String → Prop) (h : S_passing_share ds Kr Kx) : ds.length = 4 := by
  unfold S_passing_share at h
  try unfold ErrPairs at h
  grind
theorem dfn_passing_share (B : Bl mg) (G_fraction : DFn P w K mg base CA 2 "fraction" S_fraction) (G_passing : DFn P w K mg base CA 7 "passing" S_passing) {f : Addr} {fd : FuncData} (F : Fun K "passing_share" "passing_share" st_passing_share f fd) (hm : mg "passing_share" = some (.ref f)) : DFn P w K mg base CA 8 "passing_share" S_passing_share :=
  dfn_ok F sc_passing_share hm (F.binds fun _ _ _ _ _ _ us hl => match us, hl with | [_, _, _, _], _ => rfl) mo_passing_share len_passing_share (fun cdv A outer s H E hr C => der_passing_share B G_fraction G_passing cdv A outer s H E hr C) rd_passing_share
theorem mo_product_at : MonoS S_product_at := by
  intro ds K1 K2 X1 X2 hk hx h
  unfold S_product_at at *
  try unfold Bad2 at *
  try unfold ErrPairs at *
  grind
theorem len_product_at (ds : List D) (Kr : D → Prop) (Kx : String → Prop) (h : S_product_at ds Kr Kx) : ds.length = 3 := by
  unfold S_product_at at h
  try unfold ErrPairs at h
  grind
theorem dfn_product_at (B : Bl mg) {f : Addr} {fd : FuncData} (F : Fun K "product_at" "product_at" st_product_at f fd) (hm : mg "product_at" = some (.ref f)) : DFn P w K mg base CA 1 "product_at" S_product_at :=
  dfn_ok F sc_product_at hm (F.binds fun _ _ _ _ _ _ us hl => match us, hl with | [_, _, _], _ => rfl) mo_product_at len_product_at (fun cdv A outer s H E hr C => der_product_at B cdv A outer s H E hr C) rd_product_at
theorem mo_points_agreeing : MonoS S_points_agreeing := by
  intro ds K1 K2 X1 X2 hk hx h
  unfold S_points_agreeing at *
  try unfold Bad2 at *
  try unfold ErrPairs at *
  grind
theorem len_points_agreeing (ds : List D) (Kr : D → Prop) (Kx : String → Prop) (h : S_points_agreeing ds Kr Kx) : ds.length = 3 := by
  unfold S_points_agreeing at h
  try unfold ErrPairs at h
  grind
theorem dfn_points_agreeing (B : Bl mg) (G_need_rows_checklots : DFn P w K mg base CA 5 "need_rows_checklots" S_need_rows_checklots) (G_product_at : DFn P w K mg base CA 1 "product_at" S_product_at) {f : Addr} {fd : FuncData} (F : Fun K "points_agreeing" "points_agreeing" st_points_agreeing f fd) (hm : mg "points_agreeing" = some (.ref f)) : DFn P w K mg base CA 6 "points_agreeing" S_points_agreeing :=
  dfn_ok F sc_points_agreeing hm (F.binds fun _ _ _ _ _ _ us hl => match us, hl with | [_, _, _], _ => rfl) mo_points_agreeing len_points_agreeing (fun cdv A outer s H E hr C => der_points_agreeing B G_need_rows_checklots G_product_at cdv A outer s H E hr C) rd_points_agreeing
theorem mo_strange : MonoS S_strange := by
  intro ds K1 K2 X1 X2 hk hx h
  unfold S_strange at *
  try unfold Bad2 at *
  try unfold ErrPairs at *
  grind
theorem len_strange (ds : List D) (Kr : D → Prop) (Kx : String → Prop) (h : S_strange ds Kr Kx) : ds.length = 3 := by
  unfold S_strange at h
  try unfold ErrPairs at h
  grind
theorem dfn_strange (B : Bl mg) (G_need_rows_lookups : DFn P w K mg base CA 5 "need_rows_lookups" S_need_rows_lookups) {f : Addr} {fd : FuncData} (F : Fun K "strange" "strange" st_strange f fd) (hm : mg "strange" = some (.ref f)) : DFn P w K mg base CA 6 "strange" S_strange :=
  dfn_ok F sc_strange hm (F.binds fun _ _ _ _ _ _ us hl => match us, hl with | [_, _, _], _ => rfl) mo_strange len_strange (fun cdv A outer s H E hr C => der_strange B G_need_rows_lookups cdv A outer s H E hr C) rd_strange
theorem mo_tally : MonoS S_tally := by
  intro ds K1 K2 X1 X2 hk hx h
  unfold S_tally at *
  try unfold Bad2 at *
  try unfold ErrPairs at *
  grind
theorem len_tally (ds : List D) (Kr : D → Prop) (Kx : String → Prop) (h : S_tally ds Kr Kx) : ds.length = 3 := by
  unfold S_tally at h
  try unfold ErrPairs at h
  grind
theorem dfn_tally (B : Bl mg) (G_need_rows_lookups : DFn P w K mg base CA 5 "need_rows_lookups" S_need_rows_lookups) {f : Addr} {fd : FuncData} (F : Fun K "tally" "tally" st_tally f fd) (hm : mg "tally" = some (.ref f)) : DFn P w K mg base CA 6 "tally" S_tally :=
  dfn_ok F sc_tally hm (F.binds fun _ _ _ _ _ _ us hl => match us, hl with | [_, _, _], _ => rfl) mo_tally len_tally (fun cdv A outer s H E hr C => der_tally B G_need_rows_lookups cdv A outer s H E hr C) rd_tally
theorem mo_law : MonoS S_law := by
  intro ds K1 K2 X1 X2 hk hx h
  unfold S_law at *
  try unfold Bad2 at *
  try unfold ErrPairs at *
  grind
theorem len_law (ds : List D) (Kr : D → Prop) (Kx : String → Prop) (h : S_law ds Kr Kx) : ds.length = 1 := by
  unfold S_law at h
  try unfold ErrPairs at h
  grind
end
end LW

set_option Elab.async false
set_option linter.all false
set_option maxRecDepth 100000
set_option maxHeartbeats 4000000
namespace LW
open PySem PySem.Spec PyProof.Rows L2 DL
abbrev dd (n : Str) (i : Nat) : He.DefD := ⟨(n, none), n, n, defArgs (top i), defBody (top i), defScope (top i), [], []⟩
abbrev ddA (a n : Str) (i : Nat) : He.DefD := ⟨(a, none), n, n, defArgs (top i), defBody (top i), defScope (top i), [], []⟩
def fn0 : List He.DefD := [dd "_law_draw" 54, dd "_law_gcd" 58, dd "_law_frac" 59, dd "_law_hand" 53, dd "_law_kept" 56, dd "_law_mixed" 57, dd "_law_numbers" 60, dd "_law_some" 55, dd "_law_inverse" 61, dd "_law_sums" 62, dd "is_integer" 9, dd "is_between" 10, dd "is_number" 13, dd "is_numbers" 46, dd "is_prime" 11, dd "need_prime" 12, ddA "need_rows_checklots" "need_rows" 47, dd "are_one_lot" 50, ddA "need_rows_lookups" "need_rows" 30, dd "need_counts" 34, dd "power_of" 14, dd "inverse_of" 15, dd "sums_at" 35, dd "check_at" 36, dd "trimmed" 18, dd "times_lines" 21, dd "line_of_roots" 24, dd "plus_lines" 19]
def fn1 : List He.DefD := [dd "scaled_line" 20, dd "sum_line" 39, dd "lack_line" 40, dd "value_of" 22, dd "roots_of" 23, dd "false_passes" 42, dd "is_looked_up" 41, dd "most_false" 43, dd "passing" 37, dd "common" 26, dd "fraction" 27, dd "passing_share" 38, dd "product_at" 49, dd "points_agreeing" 51, dd "strange" 32, dd "tally" 33, dd "law" 63]
def fn : List He.DefD := fn0 ++ fn1
def glb0 : List PySem.Str := ["_law_draw", "_law_gcd", "_law_frac", "_law_hand", "_law_kept", "_law_mixed", "_law_numbers", "_law_some", "_law_inverse", "_law_sums", "is_integer", "is_between", "is_number", "is_numbers", "is_prime", "need_prime", "need_rows_checklots", "are_one_lot", "need_rows_lookups", "need_counts", "power_of", "inverse_of", "sums_at", "check_at", "trimmed", "times_lines", "line_of_roots", "plus_lines"]
def glb1 : List PySem.Str := ["scaled_line", "sum_line", "lack_line", "value_of", "roots_of", "false_passes", "is_looked_up", "most_false", "passing", "common", "fraction", "passing_share", "product_at", "points_agreeing", "strange", "tally", "law", "NoNumber", "NoPoint", "NoPoints", "NoPrime", "NoRow", "PlayError"]
def glb : List PySem.Str := glb0 ++ glb1
def frb0 : List PySem.Str := ["abs", "all", "bool", "enumerate", "int", "isinstance", "len", "list", "max", "range", "sorted", "str", "sum", "tuple", "zip"]
def frb : List PySem.Str := frb0
def exb0 : List PySem.Str := ["NoNumber", "NoPoint", "NoPoints", "NoPrime", "NoRow"]
def exb : List PySem.Str := exb0
def fa : List He.Fa := glb.map .glo ++ (frb.map .free ++ exb.map .exc)
def tf : List He.Defn := []
def ex0 (K : PySem.W.Frag) : Bool := cstB K "MOST_PRIME" D_MOST_PRIME
def ex1 (K : PySem.W.Frag) : Bool := cstB K "MOST_LONG_lines" D_MOST_LONG_lines
def ex2 (K : PySem.W.Frag) : Bool := cstB K "MOST_LONG_lookups" D_MOST_LONG_lookups
def ex3 (K : PySem.W.Frag) : Bool := cstB K "MOST_LONG_checklots" D_MOST_LONG_checklots
def ex4 (K : PySem.W.Frag) : Bool := true
def exK (K : PySem.W.Frag) : Bool := ex0 K && (ex1 K && (ex2 K && (ex3 K && (ex4 K))))
abbrev R : PySem.W.OpenRow := PySem.W.OpenLaw.row PySem.Challenge.rw_proofplay_k77_whole_rows_looked_up_besid
abbrev hk : PySem.W.Hook := He.hookX 4 fa fn [] tf exK
def ob (s : PySem.W.SharedT) : He.AlX := He.obsX 4 fa fn [] tf exK (HandSHeadRun.getT s)
theorem ob_eq (s : PySem.W.SharedT) : ob s = hk.obs s.abs := He.obsX_eq (HandSHeadRun.getT_eq s)
def names0 : List PySem.Str := ["PlayError", "NoPrime", "NoNumber", "NoPoints", "NoPoint", "NoRow", "MOST_PRIME", "is_integer", "is_between", "is_prime", "need_prime", "is_number", "power_of", "inverse_of", "MOST_LONG_lines", "trimmed", "plus_lines", "scaled_line", "times_lines", "value_of", "roots_of", "line_of_roots", "common", "fraction", "MOST_LONG_lookups", "need_rows", "need_rows_lookups", "strange"]
def names1 : List PySem.Str := ["tally", "need_counts", "sums_at", "check_at", "passing", "passing_share", "sum_line", "lack_line", "is_looked_up", "false_passes", "most_false", "MOST_LONG_checklots", "is_numbers", "need_rows_checklots", "product_at", "are_one_lot", "points_agreeing", "_law_hand", "_law_draw", "_law_some", "_law_kept", "_law_mixed", "_law_gcd", "_law_frac", "_law_numbers", "_law_inverse", "_law_sums"]
def names : List PySem.Str := names0 ++ names1
theorem run (w : World) : HandSHeadRun.RunEq R (PySem.W.view R.prog [63]) hk ob 4000 names w := by
  intro os
  kernel_rfl
theorem lawAt {w : World} {mg : Str → Option Value} {f0 : Addr} {h : Heap} {K : PySem.W.Frag} (X : K.In h) (G : h.Ns mainGlobals mg) (hmg : mg "law" = some (.ref f0)) (c : He.SaysX fa fn [] tf exK w h K) :
    LamX.LawAtS PySem.Challenge.rw_proofplay_k77_whole_rows_looked_up_besid w K (L2.CX PySem.Challenge.pw_proofplay_k77_whole_rows_looked_up_besid w) 9 63 "script" mg f0 h := by
  have cd := c.t.d
  have gf : ∀ x : Str, x ∈ glb → (He.Fa.glo x).ok K = true := fun x hx => cd.facts (List.mem_append_left _ (List.mem_map.mpr ⟨x, hx, rfl⟩))
  have gl : ∀ x : Str, x ∈ glb → mg x = some (.ref (He.ga K x)) := fun x hx => He.glo_ok X G (gf x hx)
  have fr : ∀ x : Str, x ∈ frb → mg x = none := fun x hx => He.free_ok X G (cd.facts (List.mem_append_right _ (List.mem_append_left _ (List.mem_map.mpr ⟨x, hx, rfl⟩))))
  have ec : ∀ x : Str, x ∈ exb → (He.Fa.exc x).ok K = true := fun x hx => cd.facts (List.mem_append_right _ (List.mem_append_right _ (List.mem_map.mpr ⟨x, hx, rfl⟩)))
  obtain ⟨fd_law, Fd_law⟩ := cd.def_ 44 (d := dd "law" 63) rfl
  have F_law : Fun K "law" "law" st_law (He.ga K "law") fd_law := fun_of Fd_law
  have e0 := hmg.symm.trans (gl "law" (by decide +kernel))
  have e1 : f0 = He.ga K "law" := by cases e0; rfl
  subst e1
  have B : Bl mg := ⟨fr "abs" (by decide +kernel), fr "all" (by decide +kernel), fr "bool" (by decide +kernel), fr "enumerate" (by decide +kernel), fr "int" (by decide +kernel), fr "isinstance" (by decide +kernel), fr "len" (by decide +kernel), fr "list" (by decide +kernel), fr "max" (by decide +kernel), fr "range" (by decide +kernel), fr "sorted" (by decide +kernel), fr "str" (by decide +kernel), fr "sum" (by decide +kernel), fr "tuple" (by decide +kernel), fr "zip" (by decide +kernel)⟩
  obtain ⟨e0, e1, e2, e3, e4⟩ : ex0 K = true ∧ ex1 K = true ∧ ex2 K = true ∧ ex3 K = true ∧ ex4 K = true := by
    have z := c.more
    unfold exK at z
    simp only [Bool.and_eq_true] at z
    exact z
  letI T : TabsC := ⟨[], true⟩
  haveI : KnOn := ⟨rfl⟩
  have Cn : Consts K mg := ⟨(let ⟨u, v, a1, a2, a3⟩ := cstB_ok X G e0; ⟨u, v, a1, a2, fun Hf Hh => a3 Hf Hh⟩), (let ⟨u, v, a1, a2, a3⟩ := cstB_ok X G e1; ⟨u, v, a1, a2, fun Hf Hh => a3 Hf Hh⟩), (let ⟨u, v, a1, a2, a3⟩ := cstB_ok X G e2; ⟨u, v, a1, a2, fun Hf Hh => a3 Hf Hh⟩), (let ⟨u, v, a1, a2, a3⟩ := cstB_ok X G e3; ⟨u, v, a1, a2, fun Hf Hh => a3 Hf Hh⟩)⟩
  have Ex_NoNumber : ExcF K mg (CAf K) "NoNumber" veBM := excF_of X G (gf _ (by decide +kernel)) (ec _ (by decide +kernel))
  have Ex_NoPoint : ExcF K mg (CAf K) "NoPoint" veBM := excF_of X G (gf _ (by decide +kernel)) (ec _ (by decide +kernel))
  have Ex_NoPoints : ExcF K mg (CAf K) "NoPoints" veBM := excF_of X G (gf _ (by decide +kernel)) (ec _ (by decide +kernel))
  have Ex_NoPrime : ExcF K mg (CAf K) "NoPrime" veBM := excF_of X G (gf _ (by decide +kernel)) (ec _ (by decide +kernel))
  have Ex_NoRow : ExcF K mg (CAf K) "NoRow" veBM := excF_of X G (gf _ (by decide +kernel)) (ec _ (by decide +kernel))
  obtain ⟨fd__law_draw, Fd__law_draw⟩ := cd.def_ 0 (d := dd "_law_draw" 54) rfl
  have F__law_draw : Fun K "_law_draw" "_law_draw" st__law_draw (He.ga K "_law_draw") fd__law_draw := fun_of Fd__law_draw
  obtain ⟨fd__law_gcd, Fd__law_gcd⟩ := cd.def_ 1 (d := dd "_law_gcd" 58) rfl
  have F__law_gcd : Fun K "_law_gcd" "_law_gcd" st__law_gcd (He.ga K "_law_gcd") fd__law_gcd := fun_of Fd__law_gcd
  obtain ⟨fd__law_frac, Fd__law_frac⟩ := cd.def_ 2 (d := dd "_law_frac" 59) rfl
  have F__law_frac : Fun K "_law_frac" "_law_frac" st__law_frac (He.ga K "_law_frac") fd__law_frac := fun_of Fd__law_frac
  obtain ⟨fd__law_hand, Fd__law_hand⟩ := cd.def_ 3 (d := dd "_law_hand" 53) rfl
  have F__law_hand : Fun K "_law_hand" "_law_hand" st__law_hand (He.ga K "_law_hand") fd__law_hand := fun_of Fd__law_hand
  obtain ⟨fd__law_kept, Fd__law_kept⟩ := cd.def_ 4 (d := dd "_law_kept" 56) rfl
  have F__law_kept : Fun K "_law_kept" "_law_kept" st__law_kept (He.ga K "_law_kept") fd__law_kept := fun_of Fd__law_kept
  obtain ⟨fd__law_mixed, Fd__law_mixed⟩ := cd.def_ 5 (d := dd "_law_mixed" 57) rfl
  have F__law_mixed : Fun K "_law_mixed" "_law_mixed" st__law_mixed (He.ga K "_law_mixed") fd__law_mixed := fun_of Fd__law_mixed
  obtain ⟨fd__law_numbers, Fd__law_numbers⟩ := cd.def_ 6 (d := dd "_law_numbers" 60) rfl
  have F__law_numbers : Fun K "_law_numbers" "_law_numbers" st__law_numbers (He.ga K "_law_numbers") fd__law_numbers := fun_of Fd__law_numbers
  obtain ⟨fd__law_some, Fd__law_some⟩ := cd.def_ 7 (d := dd "_law_some" 55) rfl
  have F__law_some : Fun K "_law_some" "_law_some" st__law_some (He.ga K "_law_some") fd__law_some := fun_of Fd__law_some
  obtain ⟨fd__law_inverse, Fd__law_inverse⟩ := cd.def_ 8 (d := dd "_law_inverse" 61) rfl
  have F__law_inverse : Fun K "_law_inverse" "_law_inverse" st__law_inverse (He.ga K "_law_inverse") fd__law_inverse := fun_of Fd__law_inverse
  obtain ⟨fd__law_sums, Fd__law_sums⟩ := cd.def_ 9 (d := dd "_law_sums" 62) rfl
  have F__law_sums : Fun K "_law_sums" "_law_sums" st__law_sums (He.ga K "_law_sums") fd__law_sums := fun_of Fd__law_sums
  obtain ⟨fd_is_integer, Fd_is_integer⟩ := cd.def_ 10 (d := dd "is_integer" 9) rfl
  have F_is_integer : Fun K "is_integer" "is_integer" st_is_integer (He.ga K "is_integer") fd_is_integer := fun_of Fd_is_integer
  obtain ⟨fd_is_between, Fd_is_between⟩ := cd.def_ 11 (d := dd "is_between" 10) rfl
  have F_is_between : Fun K "is_between" "is_between" st_is_between (He.ga K "is_between") fd_is_between := fun_of Fd_is_between
  obtain ⟨fd_is_number, Fd_is_number⟩ := cd.def_ 12 (d := dd "is_number" 13) rfl
  have F_is_number : Fun K "is_number" "is_number" st_is_number (He.ga K "is_number") fd_is_number := fun_of Fd_is_number
  obtain ⟨fd_is_numbers, Fd_is_numbers⟩ := cd.def_ 13 (d := dd "is_numbers" 46) rfl
  have F_is_numbers : Fun K "is_numbers" "is_numbers" st_is_numbers (He.ga K "is_numbers") fd_is_numbers := fun_of Fd_is_numbers
  obtain ⟨fd_is_prime, Fd_is_prime⟩ := cd.def_ 14 (d := dd "is_prime" 11) rfl
  have F_is_prime : Fun K "is_prime" "is_prime" st_is_prime (He.ga K "is_prime") fd_is_prime := fun_of Fd_is_prime
  obtain ⟨fd_need_prime, Fd_need_prime⟩ := cd.def_ 15 (d := dd "need_prime" 12) rfl
  have F_need_prime : Fun K "need_prime" "need_prime" st_need_prime (He.ga K "need_prime") fd_need_prime := fun_of Fd_need_prime
  obtain ⟨fd_need_rows_checklots, Fd_need_rows_checklots⟩ := cd.def_ 16 (d := ddA "need_rows_checklots" "need_rows" 47) rfl
  have F_need_rows_checklots : Fun K "need_rows" "need_rows" st_need_rows_checklots (He.ga K "need_rows_checklots") fd_need_rows_checklots := fun_of Fd_need_rows_checklots
  obtain ⟨fd_are_one_lot, Fd_are_one_lot⟩ := cd.def_ 17 (d := dd "are_one_lot" 50) rfl
  have F_are_one_lot : Fun K "are_one_lot" "are_one_lot" st_are_one_lot (He.ga K "are_one_lot") fd_are_one_lot := fun_of Fd_are_one_lot
  obtain ⟨fd_need_rows_lookups, Fd_need_rows_lookups⟩ := cd.def_ 18 (d := ddA "need_rows_lookups" "need_rows" 30) rfl
  have F_need_rows_lookups : Fun K "need_rows" "need_rows" st_need_rows_lookups (He.ga K "need_rows_lookups") fd_need_rows_lookups := fun_of Fd_need_rows_lookups
  obtain ⟨fd_need_counts, Fd_need_counts⟩ := cd.def_ 19 (d := dd "need_counts" 34) rfl
  have F_need_counts : Fun K "need_counts" "need_counts" st_need_counts (He.ga K "need_counts") fd_need_counts := fun_of Fd_need_counts
  obtain ⟨fd_power_of, Fd_power_of⟩ := cd.def_ 20 (d := dd "power_of" 14) rfl
  have F_power_of : Fun K "power_of" "power_of" st_power_of (He.ga K "power_of") fd_power_of := fun_of Fd_power_of
  obtain ⟨fd_inverse_of, Fd_inverse_of⟩ := cd.def_ 21 (d := dd "inverse_of" 15) rfl
  have F_inverse_of : Fun K "inverse_of" "inverse_of" st_inverse_of (He.ga K "inverse_of") fd_inverse_of := fun_of Fd_inverse_of
  obtain ⟨fd_sums_at, Fd_sums_at⟩ := cd.def_ 22 (d := dd "sums_at" 35) rfl
  have F_sums_at : Fun K "sums_at" "sums_at" st_sums_at (He.ga K "sums_at") fd_sums_at := fun_of Fd_sums_at
  obtain ⟨fd_check_at, Fd_check_at⟩ := cd.def_ 23 (d := dd "check_at" 36) rfl
  have F_check_at : Fun K "check_at" "check_at" st_check_at (He.ga K "check_at") fd_check_at := fun_of Fd_check_at
  obtain ⟨fd_trimmed, Fd_trimmed⟩ := cd.def_ 24 (d := dd "trimmed" 18) rfl
  have F_trimmed : Fun K "trimmed" "trimmed" st_trimmed (He.ga K "trimmed") fd_trimmed := fun_of Fd_trimmed
  obtain ⟨fd_times_lines, Fd_times_lines⟩ := cd.def_ 25 (d := dd "times_lines" 21) rfl
  have F_times_lines : Fun K "times_lines" "times_lines" st_times_lines (He.ga K "times_lines") fd_times_lines := fun_of Fd_times_lines
  obtain ⟨fd_line_of_roots, Fd_line_of_roots⟩ := cd.def_ 26 (d := dd "line_of_roots" 24) rfl
  have F_line_of_roots : Fun K "line_of_roots" "line_of_roots" st_line_of_roots (He.ga K "line_of_roots") fd_line_of_roots := fun_of Fd_line_of_roots
  obtain ⟨fd_plus_lines, Fd_plus_lines⟩ := cd.def_ 27 (d := dd "plus_lines" 19) rfl
  have F_plus_lines : Fun K "plus_lines" "plus_lines" st_plus_lines (He.ga K "plus_lines") fd_plus_lines := fun_of Fd_plus_lines
  obtain ⟨fd_scaled_line, Fd_scaled_line⟩ := cd.def_ 28 (d := dd "scaled_line" 20) rfl
  have F_scaled_line : Fun K "scaled_line" "scaled_line" st_scaled_line (He.ga K "scaled_line") fd_scaled_line := fun_of Fd_scaled_line
  obtain ⟨fd_sum_line, Fd_sum_line⟩ := cd.def_ 29 (d := dd "sum_line" 39) rfl
  have F_sum_line : Fun K "sum_line" "sum_line" st_sum_line (He.ga K "sum_line") fd_sum_line := fun_of Fd_sum_line
  obtain ⟨fd_lack_line, Fd_lack_line⟩ := cd.def_ 30 (d := dd "lack_line" 40) rfl
  have F_lack_line : Fun K "lack_line" "lack_line" st_lack_line (He.ga K "lack_line") fd_lack_line := fun_of Fd_lack_line
  obtain ⟨fd_value_of, Fd_value_of⟩ := cd.def_ 31 (d := dd "value_of" 22) rfl
  have F_value_of : Fun K "value_of" "value_of" st_value_of (He.ga K "value_of") fd_value_of := fun_of Fd_value_of
  obtain ⟨fd_roots_of, Fd_roots_of⟩ := cd.def_ 32 (d := dd "roots_of" 23) rfl
  have F_roots_of : Fun K "roots_of" "roots_of" st_roots_of (He.ga K "roots_of") fd_roots_of := fun_of Fd_roots_of
  obtain ⟨fd_false_passes, Fd_false_passes⟩ := cd.def_ 33 (d := dd "false_passes" 42) rfl
  have F_false_passes : Fun K "false_passes" "false_passes" st_false_passes (He.ga K "false_passes") fd_false_passes := fun_of Fd_false_passes
  obtain ⟨fd_is_looked_up, Fd_is_looked_up⟩ := cd.def_ 34 (d := dd "is_looked_up" 41) rfl
  have F_is_looked_up : Fun K "is_looked_up" "is_looked_up" st_is_looked_up (He.ga K "is_looked_up") fd_is_looked_up := fun_of Fd_is_looked_up
  obtain ⟨fd_most_false, Fd_most_false⟩ := cd.def_ 35 (d := dd "most_false" 43) rfl
  have F_most_false : Fun K "most_false" "most_false" st_most_false (He.ga K "most_false") fd_most_false := fun_of Fd_most_false
  obtain ⟨fd_passing, Fd_passing⟩ := cd.def_ 36 (d := dd "passing" 37) rfl
  have F_passing : Fun K "passing" "passing" st_passing (He.ga K "passing") fd_passing := fun_of Fd_passing
  obtain ⟨fd_common, Fd_common⟩ := cd.def_ 37 (d := dd "common" 26) rfl
  have F_common : Fun K "common" "common" st_common (He.ga K "common") fd_common := fun_of Fd_common
  obtain ⟨fd_fraction, Fd_fraction⟩ := cd.def_ 38 (d := dd "fraction" 27) rfl
  have F_fraction : Fun K "fraction" "fraction" st_fraction (He.ga K "fraction") fd_fraction := fun_of Fd_fraction
  obtain ⟨fd_passing_share, Fd_passing_share⟩ := cd.def_ 39 (d := dd "passing_share" 38) rfl
  have F_passing_share : Fun K "passing_share" "passing_share" st_passing_share (He.ga K "passing_share") fd_passing_share := fun_of Fd_passing_share
  obtain ⟨fd_product_at, Fd_product_at⟩ := cd.def_ 40 (d := dd "product_at" 49) rfl
  have F_product_at : Fun K "product_at" "product_at" st_product_at (He.ga K "product_at") fd_product_at := fun_of Fd_product_at
  obtain ⟨fd_points_agreeing, Fd_points_agreeing⟩ := cd.def_ 41 (d := dd "points_agreeing" 51) rfl
  have F_points_agreeing : Fun K "points_agreeing" "points_agreeing" st_points_agreeing (He.ga K "points_agreeing") fd_points_agreeing := fun_of Fd_points_agreeing
  obtain ⟨fd_strange, Fd_strange⟩ := cd.def_ 42 (d := dd "strange" 32) rfl
  have F_strange : Fun K "strange" "strange" st_strange (He.ga K "strange") fd_strange := fun_of Fd_strange
  obtain ⟨fd_tally, Fd_tally⟩ := cd.def_ 43 (d := dd "tally" 33) rfl
  have F_tally : Fun K "tally" "tally" st_tally (He.ga K "tally") fd_tally := fun_of Fd_tally
  refine ⟨fd_law, tf.map (He.cT K), spW K (CAf K) S_law, fun p hp => ?_, fun p hp => ?_, fun p hp => ?_, fun s u => FunD.bindsA (ps := ["script"]) Fd_law (fun _ _ _ _ _ _ us hl => match us, hl with | [_], _ => rfl) s [u] rfl, fun H a ns hl _ hT hS => law_sp mo_law (fun p hp => ?_) (Nat.le_trans hl (by rw [sizeLine_eq]; decide)) hS ⟨ns, rfl, rfl⟩, fun base X' G' TB => ?_⟩
  · obtain ⟨q, hq, rfl⟩ := List.mem_map.mp hp
    exact c.empty q hq
  · obtain ⟨q, hq, rfl⟩ := List.mem_map.mp hp
    exact c.out q hq
  · obtain ⟨q, hq, rfl⟩ := List.mem_map.mp hp
    exact PySem.W.codeHd_of_K X (c.hd q hq)
  · cases hp
  · have G__law_draw : DFn PySem.Challenge.pw_proofplay_k77_whole_rows_looked_up_besid w K mg base (CAf K) 1 "_law_draw" S__law_draw := dfn__law_draw B F__law_draw (gl "_law_draw" (by decide +kernel)) (F__law_draw.binds fun _ _ _ _ _ _ us hl => match us, hl with | [_, _], _ => rfl)
    have G__law_gcd := dfn__law_gcd (P := PySem.Challenge.pw_proofplay_k77_whole_rows_looked_up_besid) (w := w) (base := base) (CA := CAf K) B F__law_gcd (gl "_law_gcd" (by decide +kernel))
    have G__law_frac := dfn__law_frac (P := PySem.Challenge.pw_proofplay_k77_whole_rows_looked_up_besid) (w := w) (base := base) (CA := CAf K) B G__law_gcd F__law_frac (gl "_law_frac" (by decide +kernel))
    have G__law_hand := dfn__law_hand (P := PySem.Challenge.pw_proofplay_k77_whole_rows_looked_up_besid) (w := w) (base := base) (CA := CAf K) B F__law_hand (gl "_law_hand" (by decide +kernel))
    have G__law_kept := dfn__law_kept (P := PySem.Challenge.pw_proofplay_k77_whole_rows_looked_up_besid) (w := w) (base := base) (CA := CAf K) B F__law_kept (gl "_law_kept" (by decide +kernel))
    have G__law_mixed := dfn__law_mixed (P := PySem.Challenge.pw_proofplay_k77_whole_rows_looked_up_besid) (w := w) (base := base) (CA := CAf K) B G__law_draw F__law_mixed (gl "_law_mixed" (by decide +kernel))
    have G__law_numbers := dfn__law_numbers (P := PySem.Challenge.pw_proofplay_k77_whole_rows_looked_up_besid) (w := w) (base := base) (CA := CAf K) B G__law_draw F__law_numbers (gl "_law_numbers" (by decide +kernel))
    have G__law_some := dfn__law_some (P := PySem.Challenge.pw_proofplay_k77_whole_rows_looked_up_besid) (w := w) (base := base) (CA := CAf K) B G__law_draw F__law_some (gl "_law_some" (by decide +kernel))
    have G__law_inverse := dfn__law_inverse (P := PySem.Challenge.pw_proofplay_k77_whole_rows_looked_up_besid) (w := w) (base := base) (CA := CAf K) B F__law_inverse (gl "_law_inverse" (by decide +kernel))
    have G__law_sums := dfn__law_sums (P := PySem.Challenge.pw_proofplay_k77_whole_rows_looked_up_besid) (w := w) (base := base) (CA := CAf K) B G__law_inverse F__law_sums (gl "_law_sums" (by decide +kernel))
    have G_is_integer := dfn_is_integer (P := PySem.Challenge.pw_proofplay_k77_whole_rows_looked_up_besid) (w := w) (base := base) (CA := CAf K) B F_is_integer (gl "is_integer" (by decide +kernel))
    have G_is_between := dfn_is_between (P := PySem.Challenge.pw_proofplay_k77_whole_rows_looked_up_besid) (w := w) (base := base) (CA := CAf K) B G_is_integer F_is_between (gl "is_between" (by decide +kernel))
    have G_is_number := dfn_is_number (P := PySem.Challenge.pw_proofplay_k77_whole_rows_looked_up_besid) (w := w) (base := base) (CA := CAf K) B G_is_between F_is_number (gl "is_number" (by decide +kernel))
    have G_is_numbers := dfn_is_numbers (P := PySem.Challenge.pw_proofplay_k77_whole_rows_looked_up_besid) (w := w) (base := base) (CA := CAf K) B G_is_number Cn F_is_numbers (gl "is_numbers" (by decide +kernel))
    have G_is_prime := dfn_is_prime (P := PySem.Challenge.pw_proofplay_k77_whole_rows_looked_up_besid) (w := w) (base := base) (CA := CAf K) B G_is_between Cn F_is_prime (gl "is_prime" (by decide +kernel))
    have G_need_prime := dfn_need_prime (P := PySem.Challenge.pw_proofplay_k77_whole_rows_looked_up_besid) (w := w) (base := base) (CA := CAf K) B G_is_prime Ex_NoPrime F_need_prime (gl "need_prime" (by decide +kernel))
    have G_need_rows_checklots := dfn_need_rows_checklots (P := PySem.Challenge.pw_proofplay_k77_whole_rows_looked_up_besid) (w := w) (base := base) (CA := CAf K) B G_is_numbers G_need_prime Ex_NoRow F_need_rows_checklots (gl "need_rows_checklots" (by decide +kernel))
    have G_are_one_lot := dfn_are_one_lot (P := PySem.Challenge.pw_proofplay_k77_whole_rows_looked_up_besid) (w := w) (base := base) (CA := CAf K) B G_need_rows_checklots F_are_one_lot (gl "are_one_lot" (by decide +kernel))
    have G_need_rows_lookups := dfn_need_rows_lookups (P := PySem.Challenge.pw_proofplay_k77_whole_rows_looked_up_besid) (w := w) (base := base) (CA := CAf K) B G_is_number G_need_prime Ex_NoRow Cn F_need_rows_lookups (gl "need_rows_lookups" (by decide +kernel))
    have G_need_counts := dfn_need_counts (P := PySem.Challenge.pw_proofplay_k77_whole_rows_looked_up_besid) (w := w) (base := base) (CA := CAf K) B G_is_number G_need_rows_lookups Ex_NoNumber F_need_counts (gl "need_counts" (by decide +kernel))
    have G_power_of := dfn_power_of (P := PySem.Challenge.pw_proofplay_k77_whole_rows_looked_up_besid) (w := w) (base := base) (CA := CAf K) B F_power_of (gl "power_of" (by decide +kernel))
    have G_inverse_of := dfn_inverse_of (P := PySem.Challenge.pw_proofplay_k77_whole_rows_looked_up_besid) (w := w) (base := base) (CA := CAf K) B G_power_of F_inverse_of (gl "inverse_of" (by decide +kernel))
    have G_sums_at := dfn_sums_at (P := PySem.Challenge.pw_proofplay_k77_whole_rows_looked_up_besid) (w := w) (base := base) (CA := CAf K) B G_inverse_of F_sums_at (gl "sums_at" (by decide +kernel))
    have G_check_at := dfn_check_at (P := PySem.Challenge.pw_proofplay_k77_whole_rows_looked_up_besid) (w := w) (base := base) (CA := CAf K) B G_is_number G_need_counts G_sums_at Ex_NoPoint F_check_at (gl "check_at" (by decide +kernel))
    have G_trimmed := dfn_trimmed (P := PySem.Challenge.pw_proofplay_k77_whole_rows_looked_up_besid) (w := w) (base := base) (CA := CAf K) B F_trimmed (gl "trimmed" (by decide +kernel))
    have G_times_lines := dfn_times_lines (P := PySem.Challenge.pw_proofplay_k77_whole_rows_looked_up_besid) (w := w) (base := base) (CA := CAf K) B G_trimmed F_times_lines (gl "times_lines" (by decide +kernel))
    have G_line_of_roots := dfn_line_of_roots (P := PySem.Challenge.pw_proofplay_k77_whole_rows_looked_up_besid) (w := w) (base := base) (CA := CAf K) B G_is_number G_need_prime G_times_lines Ex_NoPoints Cn F_line_of_roots (gl "line_of_roots" (by decide +kernel))
    have G_plus_lines := dfn_plus_lines (P := PySem.Challenge.pw_proofplay_k77_whole_rows_looked_up_besid) (w := w) (base := base) (CA := CAf K) B G_trimmed F_plus_lines (gl "plus_lines" (by decide +kernel))
    have G_scaled_line := dfn_scaled_line (P := PySem.Challenge.pw_proofplay_k77_whole_rows_looked_up_besid) (w := w) (base := base) (CA := CAf K) B G_trimmed F_scaled_line (gl "scaled_line" (by decide +kernel))
    have G_sum_line := dfn_sum_line (P := PySem.Challenge.pw_proofplay_k77_whole_rows_looked_up_besid) (w := w) (base := base) (CA := CAf K) B G_line_of_roots G_plus_lines G_scaled_line F_sum_line (gl "sum_line" (by decide +kernel))
    have G_lack_line := dfn_lack_line (P := PySem.Challenge.pw_proofplay_k77_whole_rows_looked_up_besid) (w := w) (base := base) (CA := CAf K) B G_line_of_roots G_need_counts G_plus_lines G_scaled_line G_sum_line G_times_lines F_lack_line (gl "lack_line" (by decide +kernel))
    have G_value_of := dfn_value_of (P := PySem.Challenge.pw_proofplay_k77_whole_rows_looked_up_besid) (w := w) (base := base) (CA := CAf K) B F_value_of (gl "value_of" (by decide +kernel))
    have G_roots_of := dfn_roots_of (P := PySem.Challenge.pw_proofplay_k77_whole_rows_looked_up_besid) (w := w) (base := base) (CA := CAf K) B G_value_of F_roots_of (gl "roots_of" (by decide +kernel))
    have G_false_passes := dfn_false_passes (P := PySem.Challenge.pw_proofplay_k77_whole_rows_looked_up_besid) (w := w) (base := base) (CA := CAf K) B G_lack_line G_roots_of F_false_passes (gl "false_passes" (by decide +kernel))
    have G_is_looked_up := dfn_is_looked_up (P := PySem.Challenge.pw_proofplay_k77_whole_rows_looked_up_besid) (w := w) (base := base) (CA := CAf K) B G_lack_line F_is_looked_up (gl "is_looked_up" (by decide +kernel))
    have G_most_false := dfn_most_false (P := PySem.Challenge.pw_proofplay_k77_whole_rows_looked_up_besid) (w := w) (base := base) (CA := CAf K) B G_need_rows_lookups F_most_false (gl "most_false" (by decide +kernel))
    have G_passing := dfn_passing (P := PySem.Challenge.pw_proofplay_k77_whole_rows_looked_up_besid) (w := w) (base := base) (CA := CAf K) B G_need_counts G_sums_at F_passing (gl "passing" (by decide +kernel))
    have G_common := dfn_common (P := PySem.Challenge.pw_proofplay_k77_whole_rows_looked_up_besid) (w := w) (base := base) (CA := CAf K) B F_common (gl "common" (by decide +kernel))
    have G_fraction := dfn_fraction (P := PySem.Challenge.pw_proofplay_k77_whole_rows_looked_up_besid) (w := w) (base := base) (CA := CAf K) B G_common F_fraction (gl "fraction" (by decide +kernel))
    have G_passing_share := dfn_passing_share (P := PySem.Challenge.pw_proofplay_k77_whole_rows_looked_up_besid) (w := w) (base := base) (CA := CAf K) B G_fraction G_passing F_passing_share (gl "passing_share" (by decide +kernel))
    have G_product_at := dfn_product_at (P := PySem.Challenge.pw_proofplay_k77_whole_rows_looked_up_besid) (w := w) (base := base) (CA := CAf K) B F_product_at (gl "product_at" (by decide +kernel))
    have G_points_agreeing := dfn_points_agreeing (P := PySem.Challenge.pw_proofplay_k77_whole_rows_looked_up_besid) (w := w) (base := base) (CA := CAf K) B G_need_rows_checklots G_product_at F_points_agreeing (gl "points_agreeing" (by decide +kernel))
    have G_strange := dfn_strange (P := PySem.Challenge.pw_proofplay_k77_whole_rows_looked_up_besid) (w := w) (base := base) (CA := CAf K) B G_need_rows_lookups F_strange (gl "strange" (by decide +kernel))
    have G_tally := dfn_tally (P := PySem.Challenge.pw_proofplay_k77_whole_rows_looked_up_besid) (w := w) (base := base) (CA := CAf K) B G_need_rows_lookups F_tally (gl "tally" (by decide +kernel))
    exact fnok_of F_law sc_law len_law (fun cdv A outer s H E hr C => der_law B G__law_draw G__law_frac G__law_hand G__law_kept G__law_mixed G__law_numbers G__law_some G__law_sums G_are_one_lot G_check_at G_false_passes G_is_looked_up G_lack_line G_most_false G_passing G_passing_share G_points_agreeing G_strange G_tally cdv A outer s H E hr C) rd_law
end LW
open PySem PySem.W PySem.Calls PyProof.Rows
theorem PySem.Challenge.cw_proofplay_k77_whole_rows_looked_up_besid_holds : PySem.Challenge.rw_proofplay_k77_whole_rows_looked_up_besid.Holds := by
  w_on; o_law
  refine HandSHeadRun.head_any (r := OpenLaw.row PySem.Challenge.rw_proofplay_k77_whole_rows_looked_up_besid) (q := view (OpenLaw.row PySem.Challenge.rw_proofplay_k77_whole_rows_looked_up_besid).prog [63]) (H := LW.hk) (ob := LW.ob) (M := 4000) (loose := LW.names) (d := HandSHeadRun.topDef (OpenLaw.row PySem.Challenge.rw_proofplay_k77_whole_rows_looked_up_besid).prog 63) (kwd := []) LW.ob_eq
    (by kernel_rfl) (fun s => by kernel_rfl) LW.run (by kernel_rfl) (by kernel_rfl) (by kernel_rfl) (by rfl) (by first | assumption | decide +kernel) (by decide +kernel) ⟨rfl, rfl, rfl, rfl, rfl, by decide +kernel⟩ ?hw ?hc
  case hw => w_witness2
  case hc =>
    refine LamX.walk_ofTsE (l := PySem.Challenge.rw_proofplay_k77_whole_rows_looked_up_besid) (n := 63) (k := 9) (x := "script") (CX := fun w => L2.CX PySem.Challenge.pw_proofplay_k77_whole_rows_looked_up_besid w) rfl (by rw [sizeLine_eq]; decide) (by kernel_rfl) ⟨rfl, by decide, by decide⟩ ?F ?C
    case F =>
      intro w mg f0 h Y G hmg0
      obtain ⟨K, KX, c⟩ := Y
      have hmg : mg ("law" : PySem.Str) = some (.ref f0) := by
        have e : (HandSHeadRun.topDef (OpenLaw.row PySem.Challenge.rw_proofplay_k77_whole_rows_looked_up_besid).prog 63).name = ("law" : PySem.Str) := by kernel_rfl
        rw [← e]
        exact hmg0
      exact ⟨K, KX, LW.lawAt KX G hmg c⟩
    case C =>
      intro w H s e s' h
      obtain ⟨_, _, _, _, _, _, _, _, _, _, _, _, z⟩ := h
      exact z


