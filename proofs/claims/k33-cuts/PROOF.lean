import PyProof.Rows.All
import Wide.All
import OpenK.AllK
import Wide.FinOn
import HandS.ForMost
import HandS.HeadHook2
import HandS.TupAny
import HandS.NoneIn
import HandS.Walk
import HandS.Zip
import HandS.CallSlots
import HandS.WordsExc
import HandS.Defaults
import HandS.Gcd
import HandS.Wide
import HandS.RaiseMore
import HandS.HeadEnd
import KE.DataEq
import KE.DataCmp
import KE.DataIsa
import KE.DataAny
import KE.DataMinMax
import KE.DataFind
import KE.SortData
import HandS.IsInst
import HandS.WideBits
import KE.KTupSum
import HandS.Style
import HandS.TupLe
import HandS.More
import HandS.Deep
import KE.GoesNew
import KE.GoesMore
import PyProof.SeqIndex
import HandS.Conv
import HandS.Head0
import HandS.Head1
import HandS.Head2
import KE.KStateDown
import KE.DatumOrd
import PyProof.ReprBulk
import PyProof.Rows.ReprShort
import PySem.Challenge.RW_ballcorners_k33_whole_all_cuts
section
set_option Elab.async false
set_option linter.all false
set_option maxRecDepth 100000
namespace Vm
open PySem L2 PySem.Spec PyProof.Rows

/-! ### tuples whose object is told: no dict of their own -/
def TupO (o : Obj) : Prop := o.cls = .type "tuple" ∧ o.dict = none
def TupN (K : PySem.W.Frag) (H : Hp) (a : Addr) (xs : List V) : Prop :=
  (∃ o, TupO o ∧ H a = some (.frz o (.tup xs))) ∨ ∃ (o : Obj) (its : Array Value) (n : Nat), TupO o ∧ K.lookup a = some o ∧ o.data = .seq its n ∧ its.size ≤ sizeLine ∧ Vals xs its.toList
theorem TupN.seq {K : PySem.W.Frag} {H : Hp} {a : Addr} {xs : List V} (h : TupN K H a xs) : SqT K H a xs := by
  rcases h with ⟨o, _, e⟩ | ⟨o, its, n, t, e1, e2, e3, e4⟩
  · exact .inl (.inr ⟨o, e⟩)
  · exact .inr ⟨o, its, n, e1, t.1, e2, e3, e4⟩
/-- a list whose object is told, or tracked -/
def LstN (K : PySem.W.Frag) (H : Hp) (a : Addr) (xs : List V) : Prop :=
  Rd H a (.lst xs) ∨ ∃ (its : List Value) (n : Nat), K.lookup a = some { cls := .type "list", data := .seq its.toArray n } ∧ xs.length ≤ sizeLine ∧ Vals xs its
theorem LstN.seq {K : PySem.W.Frag} {H : Hp} {a : Addr} {xs : List V} (h : LstN K H a xs) : SqL K H a xs := by
  rcases h with h | ⟨its, n, e, hz, r⟩
  · exact .inl h
  · exact .inr ⟨_, its.toArray, n, e, rfl, rfl, rfl, by rw [List.size_toArray, ← r.length]; exact hz, by simpa using r⟩
theorem LstN.at {X : Cx} {pins : List (Addr × Obj)} {σ : L2.St} {H : Hp} {s : Shared} {a : Addr} {xs : List V} (I : Inv X pins σ H s) (h : LstN X.K H a xs) :
    xs.length ≤ sizeLine ∧ ∃ (its : List Value) (n : Nat), Vals xs its ∧ xs.length = its.length ∧ s.heap.get? a = some { cls := .type "list", data := .seq its.toArray n } := by
  rcases h with h | ⟨its, n, e, hz, r⟩
  · obtain ⟨z, its, n, r, e⟩ := h.ok I.hok
    exact ⟨z, its, n, r, r.length, e⟩
  · exact ⟨hz, its, n, r, r.length, I.kIn a _ e⟩
mutual
inductive Dq (K : PySem.W.Frag) (H : Hp) : V → PyData → Prop
  | non : Dq K H .non .none
  | bl (b : Bool) : Dq K H (.bl b) (.bool b)
  | int (i : Int) : Dq K H (.int i) (.int i)
  | str (x : Str) : Dq K H (.str x) (.str x)
  | lst {a : Addr} {xs : List V} {ds : List PyData} : LstN K H a xs → DqAll K H xs ds → Dq K H (.ref a) (.list ds)
  | tup {a : Addr} {xs : List V} {ds : List PyData} : TupN K H a xs → DqAll K H xs ds → Dq K H (.ref a) (.tuple ds)
inductive DqAll (K : PySem.W.Frag) (H : Hp) : List V → List PyData → Prop
  | nil : DqAll K H [] []
  | cons {v : V} {vs : List V} {d : PyData} {ds : List PyData} : Dq K H v d → DqAll K H vs ds → DqAll K H (v :: vs) (d :: ds)
end
mutual
theorem Dq.dp {K : PySem.W.Frag} {H : Hp} : ∀ {d : PyData} {v : V}, Dq K H v d → Dp K H v d
  | .none, _, .non => .non
  | .bool _, _, .bl b => .bl b
  | .int _, _, .int i => .int i
  | .str _, _, .str x => .str x
  | .list _, _, .lst a b => .lst a.seq (DqAll.dp b)
  | .tuple _, _, .tup a b => .tup a.seq (DqAll.dp b)
theorem DqAll.dp {K : PySem.W.Frag} {H : Hp} : ∀ {ds : List PyData} {vs : List V}, DqAll K H vs ds → DpAll K H vs ds
  | [], _, .nil => .nil
  | _ :: _, _, .cons a b => .cons (Dq.dp a) (DqAll.dp b)
end
/-- laid by a push -/
theorem laidT {X : Cx} {pins : List (Addr × Obj)} {σ : L2.St} {H : Hp} {s : Shared} {vs : List V} {us : List Value} {tk : Nat} (I : Inv X pins σ H s) (r : Vals vs us) (hz : vs.length ≤ sizeLine) :
    Inv X pins σ (upd H s.heap.objs.size (.frz { cls := .type "tuple", data := .seq us.toArray } (.tup vs))) { s with heap := s.heap.push { cls := .type "tuple", data := .seq us.toArray }, toks := tk } :=
  Inv.laid (o := .frz _ (.tup vs)) I (fun _ _ q => Heap.get?_push_of_some _ q) (Nat.le_refl _)
    ⟨Heap.get?_push_size _ rfl, hz, us, r, ⟨_, Heap.get?_push_size _ rfl, rfl, 0, rfl⟩⟩
theorem tupO_new (us : Array Value) : TupO { cls := .type "tuple", data := .seq us } := ⟨rfl, rfl⟩
def NewT (H : Hp) (vs : List V) (Q : VK) : Prop := ∀ p o, H p = none → TupO o → Q (.ref p) (upd H p (.frz o (.tup vs)))
section
variable {X : Cx} {es : List Expr} {t : TA} {pos : Pos}
theorem NewT.end_ {pins : List (Addr × Obj)} {σ : L2.St} {H : Hp} {s : Shared} {vs : List V} {us : List Value} {tk : Nat} {Q : VK} (I : Inv X pins σ H s) (r : Vals vs us) (hz : vs.length ≤ sizeLine) (q : NewT H vs Q) :
    EP X pins σ Q (.ref s.heap.objs.size) { s with heap := s.heap.push { cls := .type "tuple", data := .seq us.toArray }, toks := tk } :=
  ⟨.ref _, _, laidT I r hz, rfl, q _ _ (I.hok.fresh (Nat.le_refl _)) (tupO_new _)⟩
def tTupF (t : TA) : TE := fun σ H Q => t σ H fun xs H1 => xs.length ≤ sizeLine ∧ NewT H1 xs Q
theorem pe_tupF {k : Nat} (h : PA X es t) : PE X (.Tuple es k pos) (tTupF t) :=
  ⟨fun pins s σ H Q I hq => wpAny_Tuple_spliced (thn (h.run pos pins s σ H _ I hq) fun us s1 ⟨xs, H1, I1, r, z, q⟩ => ⟨r.length ▸ z, NewT.end_ (tk := s1.toks) I1 r z q⟩)⟩
def rTupleF (K : PySem.W.Frag) : List V → Hp → VK → Prop := fun xs H Q => ∃ p ys, xs = [.ref p] ∧ ((SqL K H p ys ∧ NewT H ys Q) ∨ (SqT K H p ys ∧ Q (.ref p) H))
theorem call_tupleF : CallR X (.type "tuple") (rTupleF X.K) := by
  rintro pins s σ H xs us Q I r ⟨p, ys, rfl, ⟨hq, q⟩ | ⟨hq, q⟩⟩
  · obtain ⟨its, r', pl, hz⟩ := I.list hq
    rw [Vals.ref1 r]
    refine call_tuple_list pl.isList (fun h' kp => ?_) (by rw [List.size_toArray, ← r'.length]; exact hz)
    have I1 : Inv X pins σ H { s with heap := h' } := I.kept (t' := s.toks) kp
    exact NewT.end_ (tk := s.toks) I1 r' hz q
  · exact call_tuple_of pins s σ H _ us Q I r ⟨p, ys, rfl, .inr ⟨hq, q⟩⟩
def rSlF (K : PySem.W.Frag) : V → Option Int → Option Int → Hp → VK → Prop := fun x lo hi H Q => ∃ a xs, x = .ref a ∧ SqT K H a xs ∧
  (HT.sIx xs.length 0 lo = 0 ∧ HT.sIx xs.length xs.length hi = xs.length → Q (.ref a) H) ∧ (¬ (HT.sIx xs.length 0 lo = 0 ∧ HT.sIx xs.length xs.length hi = xs.length) → NewT H (cutV xs lo hi) Q)
theorem sl_tupF : SlR X (rSlF X.K) := by
  rintro pins s σ H x v vl vu lo hi sl Q I rx hs pl pu ⟨a, xs, rfl, hx, q1, q2⟩
  by_cases hw : HT.sIx xs.length 0 lo = 0 ∧ HT.sIx xs.length xs.length hi = xs.length
  · exact sl_tupA pins s σ H _ v vl vu lo hi sl Q I rx hs pl pu ⟨a, xs, rfl, hx, q1, fun z => absurd hw z⟩
  · cases rx
    obtain ⟨its, r, ht, hz⟩ := I.tuple hx
    have hn : its.toArray.size = xs.length := by rw [List.size_toArray]; exact r.length.symm
    refine ⟨"tuple", _, PyProof.Rows.slot_tuple_getitem.lookup, ht.typeIs, HT.getItem_tuple_cut ht hs pl pu (hn ▸ hw) ?_ (hn ▸ hz)⟩
    rw [hn]
    have c := (r.drop (HT.sIx xs.length 0 lo)).take (HT.sIx xs.length xs.length hi - HT.sIx xs.length 0 lo)
    exact NewT.end_ (tk := s.toks) I c (Nat.le_trans (cutV_length xs lo hi) hz) (q2 hw)
def rCatF (K : PySem.W.Frag) : R2 := fun x y H Q => ∃ a b xs ys, x = .ref a ∧ y = .ref b ∧ SqT K H a xs ∧ SqT K H b ys ∧ xs.length + ys.length ≤ sizeLine ∧
  (xs = [] → Q (.ref b) H) ∧ (xs ≠ [] → ys = [] → Q (.ref a) H) ∧ (xs ≠ [] → ys ≠ [] → NewT H (xs ++ ys) Q)
theorem op_catF : OpR X (binaryOp .Add) (rCatF X.K) := by
  rintro pins s σ H x y v u Q I rx ry ⟨a, b, xs, ys, rfl, rfl, ha, hb, hz, q0, q1, q2⟩
  by_cases hx : xs = []
  · exact op_catA pins s σ H _ _ v u Q I rx ry ⟨a, b, xs, ys, rfl, rfl, ha, hb, hz, q0, q1, fun z => absurd hx z⟩
  · cases rx
    cases ry
    obtain ⟨its, r1, p1, _⟩ := I.tuple ha
    obtain ⟨its2, r2, p2, _⟩ := I.tuple hb
    refine HT.cat_tup p1 p2 (fun z => hx (r1.nil_iff.mp z)) (fun z => ⟨.ref a, H, I, rfl, q1 hx (r2.nil_iff.mp z)⟩) (fun z => ?_) (by rw [← r1.length, ← r2.length]; exact hz)
    exact NewT.end_ (tk := s.toks) I (r1.append r2) (by rw [List.length_append]; exact hz) (q2 hx fun w => z (r2.nil_iff.mpr w))
theorem call_divmodF : CallR X (.builtin "divmod") (fun xs H Q => ∃ i j, xs = [.int i, .int j] ∧ CDiv i j ∧ NewT H [.int (i / j), .int (i % j)] Q) := by
  rintro pins s σ H xs us Q I r ⟨i, j, rfl, ⟨h1, h2⟩, q⟩
  obtain ⟨t, t', rfl⟩ := r.int2
  refine divmod_int (by omega) ?_ (.inl (PyProof.noPylong_small (by omega)))
  rw [Int.fdiv_eq_ediv_of_nonneg i (by omega), Int.fmod_eq_emod_of_nonneg i (by omega)]
  have two : 2 ≤ sizeLine := by rw [sizeLine_eq]; decide
  have rel : Vals [V.int (i / j), V.int (i % j)] [.int (i / j) s.toks, .int (i % j) (s.toks + 1)] := .cons ⟨_, rfl⟩ (.cons ⟨_, rfl⟩ .nil)
  exact NewT.end_ I rel two q
end
end Vm
end
section
set_option Elab.async false
set_option linter.all false
set_option maxRecDepth 100000
namespace Vm
open PySem L2

/-! ### values with ownership -/
inductive U where
  | d (x : PyData)
  | raw (v : V)
  | fn (x : Str)
  | dead
  | hole
  | hol (o : HO)
  | pr (us : List U)
  | own (us : List U)
  | dk (ks : List Key) (us : List U)
  | dt (ks : List (List Key)) (us : List U)
  | ob (c : Str) (fs : List Str) (us : List U)

mutual
def U.toD : U → Option PyData
  | .d x => some x
  | .own us => (U.toDs us).map .list
  | _ => none
def U.toDs : List U → Option (List PyData)
  | [] => some []
  | u :: us => match u.toD, U.toDs us with
    | some x, some xs => some (x :: xs)
    | _, _ => none
end

mutual
inductive Ow (K : PySem.W.Frag) (B H : Hp) : V → U → List Addr → Prop
  | d {v : V} {x : PyData} : Dq K B v x → Ow K B H v (.d x) []
  | raw {v : V} : Ow K B H v (.raw v) []
  | fn {x : Str} : Ow K B H (.ref (He.ga K x)) (.fn x) []
  | dead {v : V} : Ow K B H v .dead []
  | hole {p : Addr} {o : HO} : B p = none → H p = some o → Ow K B H (.ref p) .hole [p]
  | hol {p : Addr} {o : HO} : B p = none → H p = some o → Ow K B H (.ref p) (.hol o) [p]
  | own {p : Addr} {vs : List V} {us : List U} {F : List Addr} : B p = none → H p = some (.lst vs) → OwAll K B H vs us F → Ow K B H (.ref p) (.own us) (p :: F)
  | pr {p : Addr} {vs : List V} {us : List U} {F : List Addr} : B p = none → H p = some (.tup vs) → OwAll K B H vs us F → Ow K B H (.ref p) (.pr us) (p :: F)
  | dk {p : Addr} {ks : List Key} {vs : List V} {us : List U} {F : List Addr} : B p = none → H p = some (.dK (ks.zip vs)) → ks.length = vs.length → OwAll K B H vs us F → Ow K B H (.ref p) (.dk ks us) (p :: F)
  | dt {p : Addr} {ks : List (List Key)} {vs : List V} {us : List U} {F : List Addr} : B p = none → H p = some (.dT (ks.zip vs)) → ks.length = vs.length → OwAll K B H vs us F → Ow K B H (.ref p) (.dt ks us) (p :: F)
  | ob {p dx : Addr} {c : Str} {fs : List Str} {vs : List V} {us : List U} {F : List Addr} : B p = none → H p = some (.ins (He.ga K c) dx (fs.zip vs)) → fs.length = vs.length → OwAll K B H vs us F → Ow K B H (.ref p) (.ob c fs us) (p :: F)
inductive OwAll (K : PySem.W.Frag) (B H : Hp) : List V → List U → List Addr → Prop
  | nil : OwAll K B H [] [] []
  | cons {v : V} {u : U} {vs : List V} {us : List U} {F G : List Addr} : Ow K B H v u F → OwAll K B H vs us G → OwAll K B H (v :: vs) (u :: us) (F ++ G)
end

section
variable {K : PySem.W.Frag} {B B' H H' : Hp}

theorem SqLs {a : Addr} {xs : List V} (e : Same B B') (h : SqL K B a xs) : SqL K B' a xs := Same.seq e h
theorem LstNs {a : Addr} {xs : List V} (e : Same B B') (h : LstN K B a xs) : LstN K B' a xs := by
  rcases h with (h | ⟨o, h⟩) | h
  · exact .inl (.inl (e _ _ h))
  · exact .inl (.inr ⟨o, e _ _ h⟩)
  · exact .inr h
theorem TupNs {a : Addr} {xs : List V} (e : Same B B') (h : TupN K B a xs) : TupN K B' a xs := by
  rcases h with ⟨o, t, h⟩ | h
  · exact .inl ⟨o, t, e _ _ h⟩
  · exact .inr h
theorem SqTs {a : Addr} {xs : List V} (e : Same B B') (h : SqT K B a xs) : SqT K B' a xs := by
  rcases h with (h | ⟨o, h⟩) | h
  · exact .inl (.inl (e _ _ h))
  · exact .inl (.inr ⟨o, e _ _ h⟩)
  · exact .inr h

mutual
theorem dp_same (e : Same B B') : ∀ (x : PyData) (v : V), Dq K B v x → Dq K B' v x
  | .none, _, h => by cases h; exact .non
  | .bool b, _, h => by cases h; exact .bl b
  | .int i, _, h => by cases h; exact .int i
  | .str s, _, h => by cases h; exact .str s
  | .list xs, _, h => by cases h with | lst a b => exact .lst (LstNs e a) (dpAll_same e xs _ b)
  | .tuple xs, _, h => by cases h with | tup a b => exact .tup (TupNs e a) (dpAll_same e xs _ b)
  | .dict _, _, h => by cases h
theorem dpAll_same (e : Same B B') : ∀ (xs : List PyData) (vs : List V), DqAll K B vs xs → DqAll K B' vs xs
  | [], _, h => by cases h; exact .nil
  | x :: xs, _, h => by cases h with | cons a b => exact .cons (dp_same e x _ a) (dpAll_same e xs _ b)
end

mutual
theorem Ow.chg (e : Same B B') : ∀ (u : U) (v : V) (F : List Addr), Ow K B H v u F → (∀ p ∈ F, B' p = none ∧ H' p = H p) → Ow K B' H' v u F
  | .d x, _, _, h, _ => by cases h with | d a => exact .d (dp_same e x _ a)
  | .raw v, _, _, h, _ => by cases h; exact .raw
  | .fn x, _, _, h, _ => by cases h; exact .fn
  | .dead, _, _, h, _ => by cases h; exact .dead
  | .hole, _, _, h, hp => by cases h with | hole a b => exact .hole (hp _ (by simp)).1 (by rw [(hp _ (by simp)).2]; exact b)
  | .hol o, _, _, h, hp => by cases h with | hol a b => exact .hol (hp _ (by simp)).1 (by rw [(hp _ (by simp)).2]; exact b)
  | .own us, _, _, h, hp => by
    cases h with
    | own a b c =>
      have h1 := hp _ (List.mem_cons_self ..)
      exact .own h1.1 (by rw [h1.2]; exact b) (OwAll.chg e us _ _ c fun q hq => hp q (List.mem_cons_of_mem _ hq))
  | .pr us, _, _, h, hp => by
    cases h with
    | pr a b c =>
      have h1 := hp _ (List.mem_cons_self ..)
      exact .pr h1.1 (by rw [h1.2]; exact b) (OwAll.chg e us _ _ c fun q hq => hp q (List.mem_cons_of_mem _ hq))
  | .dk ks us, _, _, h, hp => by
    cases h with
    | dk a b l c =>
      have h1 := hp _ (List.mem_cons_self ..)
      exact .dk h1.1 (by rw [h1.2]; exact b) l (OwAll.chg e us _ _ c fun q hq => hp q (List.mem_cons_of_mem _ hq))
  | .dt ks us, _, _, h, hp => by
    cases h with
    | dt a b l c =>
      have h1 := hp _ (List.mem_cons_self ..)
      exact .dt h1.1 (by rw [h1.2]; exact b) l (OwAll.chg e us _ _ c fun q hq => hp q (List.mem_cons_of_mem _ hq))
  | .ob c fs us, _, _, h, hp => by
    cases h with
    | ob a b l c =>
      have h1 := hp _ (List.mem_cons_self ..)
      exact .ob h1.1 (by rw [h1.2]; exact b) l (OwAll.chg e us _ _ c fun q hq => hp q (List.mem_cons_of_mem _ hq))
theorem OwAll.chg (e : Same B B') : ∀ (us : List U) (vs : List V) (F : List Addr), OwAll K B H vs us F → (∀ p ∈ F, B' p = none ∧ H' p = H p) → OwAll K B' H' vs us F
  | [], _, _, h, _ => by cases h; exact .nil
  | u :: us, _, _, h, hp => by
    cases h with
    | cons a b => exact .cons (Ow.chg e u _ _ a fun q hq => hp q (List.mem_append_left _ hq)) (OwAll.chg e us _ _ b fun q hq => hp q (List.mem_append_right _ hq))
end

mutual
theorem Ow.at : ∀ (u : U) (v : V) (F : List Addr), Ow K B H v u F → ∀ p ∈ F, B p = none ∧ ∃ o, H p = some o
  | .d x, _, _, h, q, hq => by cases h; cases hq
  | .raw v, _, _, h, q, hq => by cases h; cases hq
  | .fn x, _, _, h, q, hq => by cases h; cases hq
  | .dead, _, _, h, q, hq => by cases h; cases hq
  | .hole, _, _, h, q, hq => by
    cases h with
    | @hole p o a b =>
      have e : q = p := by simpa using hq
      subst e; exact ⟨a, _, b⟩
  | .hol o, _, _, h, q, hq => by
    cases h with
    | @hol p o a b =>
      have e : q = p := by simpa using hq
      subst e; exact ⟨a, _, b⟩
  | .own us, _, _, h, q, hq => by
    cases h with
    | own a b c =>
      rcases List.mem_cons.mp hq with e | hq
      · subst e; exact ⟨a, _, b⟩
      · exact OwAll.at us _ _ c q hq
  | .pr us, _, _, h, q, hq => by
    cases h with
    | pr a b c =>
      rcases List.mem_cons.mp hq with e | hq
      · subst e; exact ⟨a, _, b⟩
      · exact OwAll.at us _ _ c q hq
  | .dk ks us, _, _, h, q, hq => by
    cases h with
    | dk a b l c =>
      rcases List.mem_cons.mp hq with e | hq
      · subst e; exact ⟨a, _, b⟩
      · exact OwAll.at us _ _ c q hq
  | .dt ks us, _, _, h, q, hq => by
    cases h with
    | dt a b l c =>
      rcases List.mem_cons.mp hq with e | hq
      · subst e; exact ⟨a, _, b⟩
      · exact OwAll.at us _ _ c q hq
  | .ob c fs us, _, _, h, q, hq => by
    cases h with
    | ob a b l c =>
      rcases List.mem_cons.mp hq with e | hq
      · subst e; exact ⟨a, _, b⟩
      · exact OwAll.at us _ _ c q hq
theorem OwAll.at : ∀ (us : List U) (vs : List V) (F : List Addr), OwAll K B H vs us F → ∀ p ∈ F, B p = none ∧ ∃ o, H p = some o
  | [], _, _, h, q, hq => by cases h; cases hq
  | u :: us, _, _, h, q, hq => by
    cases h with
    | cons a b =>
      rcases List.mem_append.mp hq with hq | hq
      · exact Ow.at u _ _ a q hq
      · exact OwAll.at us _ _ b q hq
end

theorem OwAll.length : ∀ {us : List U} {vs : List V} {F : List Addr}, OwAll K B H vs us F → vs.length = us.length
  | [], _, _, h => by cases h; rfl
  | u :: us, _, _, h => by cases h with | cons a b => simp [OwAll.length b]

def frz (B H : Hp) (F : List Addr) : Hp := fun a => if a ∈ F then H a else B a
theorem frz_same (e : Same B H) (F : List Addr) : Same (frz B H F) H := fun b o h => by
  unfold frz at h; split at h
  · exact h
  · exact e _ _ h
theorem same_frz (e : Same B H) (F : List Addr) : Same B (frz B H F) := fun b o h => by
  unfold frz; split
  · exact e _ _ h
  · exact h
theorem frz_mono (e : Same B H) {F G : List Addr} (hs : ∀ p ∈ F, p ∈ G) : Same (frz B H F) (frz B H G) := fun b o h => by
  unfold frz at h ⊢
  split at h
  · rename_i hb; rw [if_pos (hs _ hb)]; exact h
  · split
    · exact e _ _ h
    · exact h

mutual
theorem Ow.freeze (e : Same B H) : ∀ (u : U) (v : V) (F : List Addr) (x : PyData), Ow K B H v u F → u.toD = some x → Dq K (frz B H F) v x
  | .d x, _, _, y, h, hx => by
    cases h with
    | d a =>
      have q : x = y := by simpa [U.toD] using hx
      subst q; exact dp_same (same_frz e _) _ _ a
  | .own us, _, _, y, h, hx => by
    cases h with
    | @own p vs _ F a b c =>
      have hx' : (U.toDs us).map PyData.list = some y := by simpa [U.toD] using hx
      obtain ⟨xs, h1, h2⟩ := Option.map_eq_some_iff.mp hx'
      subst h2
      have q := OwAll.freeze e us vs F xs c h1
      refine .lst (xs := vs) (.inl (.inl ?_)) (dpAll_same (frz_mono e fun p hp => List.mem_cons_of_mem _ hp) _ _ q)
      unfold frz; rw [if_pos (List.mem_cons_self ..)]; exact b
  | .raw v, _, _, y, h, hx => by simp [U.toD] at hx
  | .fn _, _, _, y, h, hx => by simp [U.toD] at hx
  | .dead, _, _, y, h, hx => by simp [U.toD] at hx
  | .hole, _, _, y, h, hx => by simp [U.toD] at hx
  | .hol _, _, _, y, h, hx => by simp [U.toD] at hx
  | .pr _, _, _, y, h, hx => by simp [U.toD] at hx
  | .dk _ _, _, _, y, h, hx => by simp [U.toD] at hx
  | .dt _ _, _, _, y, h, hx => by simp [U.toD] at hx
  | .ob _ _ _, _, _, y, h, hx => by simp [U.toD] at hx
theorem OwAll.freeze (e : Same B H) : ∀ (us : List U) (vs : List V) (F : List Addr) (xs : List PyData), OwAll K B H vs us F → U.toDs us = some xs → DqAll K (frz B H F) vs xs
  | [], _, _, y, h, hx => by
    cases h
    have q : [] = y := by simpa [U.toDs] using hx
    subst q; exact .nil
  | u :: us, _, _, y, h, hx => by
    cases h with
    | @cons v _ vs _ F G a b =>
      cases h1 : u.toD with
      | none => simp [U.toDs, h1] at hx
      | some x =>
        cases h2 : U.toDs us with
        | none => simp [U.toDs, h1, h2] at hx
        | some xs =>
          have q : x :: xs = y := by simpa [U.toDs, h1, h2] using hx
          subst q
          exact .cons (dp_same (frz_mono e fun p hp => List.mem_append_left _ hp) _ _ (Ow.freeze e u v F x a h1))
            (dpAll_same (frz_mono e fun p hp => List.mem_append_right _ hp) _ _ (OwAll.freeze e us vs G xs b h2))
end
end

/-! ### the pairs that stand: SP -/
abbrev PL := List (V × U)
structure SP (K : PySem.W.Frag) (H : Hp) (ps : PL) : Prop where
  ex : ∃ (B : Hp) (F : List Addr), Same B H ∧ OwAll K B H (ps.map (·.1)) (ps.map (·.2)) F ∧ F.Nodup

section
variable {K : PySem.W.Frag} {B H H' : Hp} {ps qs : PL}

theorem owAll_perm (h : ps.Perm qs) : ∀ {F : List Addr}, OwAll K B H (ps.map (·.1)) (ps.map (·.2)) F → ∃ G, F.Perm G ∧ OwAll K B H (qs.map (·.1)) (qs.map (·.2)) G := by
  induction h with
  | nil => intro F h; exact ⟨F, .refl _, h⟩
  | cons a _ ih =>
    intro F h
    cases h with
    | cons x y =>
      obtain ⟨G, p, z⟩ := ih y
      exact ⟨_, p.append_left _, .cons x z⟩
  | swap a b l =>
    intro F h
    cases h with
    | @cons _ _ _ _ F1 _ x y =>
      cases y with
      | @cons _ _ _ _ F2 F3 y z =>
        refine ⟨_, ?_, .cons y (.cons x z)⟩
        rw [← List.append_assoc, ← List.append_assoc]
        exact (List.perm_append_comm).append_right _
  | trans _ _ ih1 ih2 =>
    intro F h
    obtain ⟨G, p, z⟩ := ih1 h
    obtain ⟨G', p', z'⟩ := ih2 z
    exact ⟨G', p.trans p', z'⟩
theorem SP.perm (s : SP K H ps) (h : ps.Perm qs) : SP K H qs := by
  obtain ⟨B, F, e, o, n⟩ := s.ex
  obtain ⟨G, p, z⟩ := owAll_perm h o
  exact ⟨B, G, e, z, p.nodup n⟩
theorem owAll_app : ∀ {vs ws : List V} {us xs : List U} {F : List Addr}, vs.length = us.length → OwAll K B H (vs ++ ws) (us ++ xs) F → ∃ F1 F2, F = F1 ++ F2 ∧ OwAll K B H vs us F1 ∧ OwAll K B H ws xs F2
  | [], ws, [], xs, F, _, h => ⟨[], F, rfl, .nil, h⟩
  | v :: vs, ws, u :: us, xs, F, hl, h => by
    cases h with
    | cons a b =>
      obtain ⟨F1, F2, e, x, y⟩ := owAll_app (by simpa using hl) b
      subst e
      exact ⟨_, F2, (List.append_assoc ..).symm, .cons a x, y⟩
  | [], _, _ :: _, _, _, hl, _ => by simp at hl
  | _ :: _, _, [], _, _, hl, _ => by simp at hl
theorem owAll_app2 : ∀ {vs ws : List V} {us xs : List U} {F G : List Addr}, OwAll K B H vs us F → OwAll K B H ws xs G → OwAll K B H (vs ++ ws) (us ++ xs) (F ++ G)
  | _, _, [], _, _, _, h, g => by cases h; exact g
  | _, _, u :: us, _, _, _, h, g => by
    cases h with
    | cons a b => rw [List.append_assoc]; exact .cons a (owAll_app2 b g)
theorem SP.dropL (s : SP K H (ps ++ qs)) : SP K H qs := by
  obtain ⟨B, F, e, o, n⟩ := s.ex
  rw [List.map_append, List.map_append] at o
  obtain ⟨F1, F2, e2, _, y⟩ := owAll_app (by simp) o
  subst e2
  exact ⟨B, F2, e, y, (List.nodup_append.mp n).2.1⟩
theorem SP.dropR (s : SP K H (ps ++ qs)) : SP K H ps := (s.perm List.perm_append_comm).dropL
theorem SP.tail {p : V × U} (s : SP K H (p :: ps)) : SP K H ps := SP.dropL (ps := [p]) s
theorem SP.nil : SP K H [] := ⟨⟨fun _ => none, [], fun _ _ h => (by cases h), OwAll.nil, List.nodup_nil⟩⟩
/-- a value without footprint is put in -/
theorem SP.put0 {v : V} {u : U} (s : SP K H ps) (h : ∀ B, Same B H → Ow K B H v u []) : SP K H ((v, u) :: ps) := by
  obtain ⟨B, F, e, o, n⟩ := s.ex
  exact ⟨B, F, e, .cons (F := []) (h B e) o, n⟩
theorem SP.int (s : SP K H ps) (i : Int) : SP K H ((.int i, .d (.int i)) :: ps) := s.put0 fun _ _ => .d (.int i)
theorem SP.bl (s : SP K H ps) (b : Bool) : SP K H ((.bl b, .d (.bool b)) :: ps) := s.put0 fun _ _ => .d (.bl b)
theorem SP.str (s : SP K H ps) (x : Str) : SP K H ((.str x, .d (.str x)) :: ps) := s.put0 fun _ _ => .d (.str x)
theorem SP.non (s : SP K H ps) : SP K H ((.non, .d .none) :: ps) := s.put0 fun _ _ => .d .non
theorem SP.raw (s : SP K H ps) (v : V) : SP K H ((v, .raw v) :: ps) := s.put0 fun _ _ => .raw
theorem SP.fn (s : SP K H ps) (x : Str) : SP K H ((.ref (He.ga K x), .fn x) :: ps) := s.put0 fun _ _ => .fn
theorem SP.dead (s : SP K H ps) (v : V) : SP K H ((v, .dead) :: ps) := s.put0 fun _ _ => .dead

theorem SP.dup {v : V} {x : PyData} (s : SP K H ((v, .d x) :: ps)) : SP K H ((v, .d x) :: (v, .d x) :: ps) := by
  obtain ⟨B, F, e, o, n⟩ := s.ex
  cases o with
  | cons a b =>
    cases a with
    | d a => exact ⟨B, _, e, .cons (F := []) (.d a) (.cons (F := []) (.d a) b), by simpa using n⟩
theorem SP.dupF {v : V} {x : Str} (s : SP K H ((v, .fn x) :: ps)) : SP K H ((v, .fn x) :: (v, .fn x) :: ps) := by
  obtain ⟨B, F, e, o, n⟩ := s.ex
  cases o with
  | cons a b => cases a with | fn => exact ⟨B, _, e, .cons (F := []) .fn (.cons (F := []) .fn b), by simpa using n⟩
theorem ow_raw {v w : V} {F : List Addr} (h : Ow K B H v (.raw w) F) : v = w := by cases h; rfl
theorem SP.dupR {v w : V} (s : SP K H ((v, .raw w) :: ps)) : v = w := by
  obtain ⟨B, F, e, o, n⟩ := s.ex
  cases o with
  | cons a b => exact ow_raw a
theorem SP.isFn {v : V} {x : Str} (s : SP K H ((v, .fn x) :: ps)) : v = .ref (He.ga K x) := by
  obtain ⟨B, F, e, o, n⟩ := s.ex
  cases o with
  | cons a b => cases a with | fn => rfl

/-- what is read: data -/
theorem SP.peekQ {v : V} {u : U} {x : PyData} (s : SP K H ((v, u) :: ps)) (hx : u.toD = some x) : Dq K H v x := by
  obtain ⟨B, F, e, o, n⟩ := s.ex
  cases o with
  | cons a b => exact dp_same (frz_same e _) _ _ (Ow.freeze e u v _ x a hx)
theorem SP.peek {v : V} {u : U} {x : PyData} (s : SP K H ((v, u) :: ps)) (hx : u.toD = some x) : Dp K H v x := (s.peekQ hx).dp
theorem SP.freeze {v : V} {u : U} {x : PyData} (s : SP K H ((v, u) :: ps)) (hx : u.toD = some x) : SP K H ((v, .d x) :: ps) := by
  obtain ⟨B, F, e, o, n⟩ := s.ex
  cases o with
  | @cons _ _ _ _ F1 F2 a b =>
    refine ⟨frz B H F1, [] ++ F2, frz_same e _, .cons (.d (Ow.freeze e u v _ x a hx)) (OwAll.chg (same_frz e _) _ _ _ b fun q hq => ⟨?_, rfl⟩), (List.nodup_append.mp n).2.1⟩
    unfold frz
    rw [if_neg fun hq1 => (List.nodup_append.mp n).2.2 q hq1 q hq rfl]
    exact (OwAll.at _ _ _ b q hq).1

theorem same_upd {p : Addr} {o : HO} (h : H p = none) : Same H (upd H p o) := fun b u e => by
  rw [upd_ne (ne_of_none e h)]; exact e
/-- a new object is laid -/
theorem SP.laid {p : Addr} {o : HO} (s : SP K H ps) (h : H p = none) : SP K (upd H p o) ps := by
  obtain ⟨B, F, e, w, n⟩ := s.ex
  refine ⟨B, F, e.trans (same_upd h), OwAll.chg (Same.refl _) _ _ _ w fun q hq => ?_, n⟩
  obtain ⟨h1, u, h2⟩ := OwAll.at _ _ _ w q hq
  exact ⟨h1, upd_ne (ne_of_none h2 h)⟩

theorem dp_of_d {v : V} {x : PyData} {F : List Addr} (h : Ow K B H v (.d x) F) : Dq K B v x ∧ F = [] := by cases h with | d a => exact ⟨a, rfl⟩
theorem dpAll_of_d : ∀ {xs : List PyData} {vs : List V} {F : List Addr}, OwAll K B H vs (xs.map .d) F → DqAll K B vs xs ∧ F = []
  | [], _, _, h => by cases h; exact ⟨.nil, rfl⟩
  | x :: xs, _, _, h => by
    cases h with
    | cons a b =>
      obtain ⟨h1, e1⟩ := dp_of_d a
      obtain ⟨h2, e2⟩ := dpAll_of_d b
      subst e1; subst e2
      exact ⟨.cons h1 h2, rfl⟩
theorem d_of_dpAll : ∀ {xs : List PyData} {vs : List V}, DqAll K B vs xs → OwAll K B H vs (xs.map .d) []
  | [], _, h => by cases h; exact .nil
  | x :: xs, _, h => by cases h with | cons a b => exact .cons (F := []) (.d a) (d_of_dpAll b)
theorem DqAll.len : ∀ {xs : List PyData} {vs : List V}, DqAll K B vs xs → vs.length = xs.length
  | [], _, h => by cases h; rfl
  | x :: xs, _, h => by cases h with | cons a b => simp [DqAll.len b]
theorem zip_fst {vs : List V} {us : List U} (h : vs.length = us.length) : (vs.zip us).map (·.1) = vs := by
  rw [List.map_fst_zip]; omega
theorem zip_snd {vs : List V} {us : List U} (h : vs.length = us.length) : (vs.zip us).map (·.2) = us := by
  rw [List.map_snd_zip]; omega

/-- a new tuple of data -/
theorem SP.newTup {p : Addr} {vs : List V} {xs : List PyData} (s : SP K H (vs.zip (xs.map .d) ++ ps)) (hl : vs.length = xs.length) {o : Obj} (ho : TupO o) (h : H p = none) :
    SP K (upd H p (.frz o (.tup vs))) ((.ref p, .d (.tuple xs)) :: ps) := by
  obtain ⟨B, F, e, w, n⟩ := s.ex
  have hl' : vs.length = (xs.map U.d).length := by simpa using hl
  rw [List.map_append, List.map_append, zip_fst hl', zip_snd hl'] at w
  obtain ⟨F1, F2, e2, a, b⟩ := owAll_app hl' w
  subst e2
  obtain ⟨da, e1⟩ := dpAll_of_d a
  subst e1
  have hB : B p = none := e.free h
  have sB : Same B (upd B p (.frz o (.tup vs))) := same_upd hB
  refine ⟨upd B p (.frz o (.tup vs)), [] ++ F2, fun q o z => ?_, .cons (.d (.tup (.inl ⟨o, ho, upd_same⟩) (dpAll_same sB _ _ da))) (OwAll.chg sB _ _ _ b fun q hq => ?_), n⟩
  · by_cases hq : q = p
    · subst hq; rw [upd_same] at z ⊢; exact z
    · rw [upd_ne hq] at z ⊢; exact e _ _ z
  · obtain ⟨h1, u, h2⟩ := OwAll.at _ _ _ b q hq
    have hq : q ≠ p := ne_of_none h2 h
    exact ⟨by rw [upd_ne hq]; exact h1, upd_ne hq⟩
/-- a new list of one's own -/
theorem SP.newOwn {p : Addr} {vs : List V} {us : List U} (s : SP K H (vs.zip us ++ ps)) (hl : vs.length = us.length) (h : H p = none) :
    SP K (upd H p (.lst vs)) ((.ref p, .own us) :: ps) := by
  obtain ⟨B, F, e, w, n⟩ := s.ex
  rw [List.map_append, List.map_append, zip_fst hl, zip_snd hl] at w
  obtain ⟨F1, F2, e2, a, b⟩ := owAll_app hl w
  subst e2
  have hB : B p = none := e.free h
  have keep : ∀ {vs us F}, OwAll K B H vs us F → OwAll K B (upd H p (.lst vs)) vs us F := fun {vs us F} z => OwAll.chg (Same.refl _) _ _ _ z fun q hq => by
    obtain ⟨h1, u, h2⟩ := OwAll.at _ _ _ z q hq
    exact ⟨h1, upd_ne (ne_of_none h2 h)⟩
  have keep2 : OwAll K B (upd H p (.lst vs)) (ps.map (·.1)) (ps.map (·.2)) F2 := OwAll.chg (Same.refl _) _ _ _ b fun q hq => by
    obtain ⟨h1, u, h2⟩ := OwAll.at _ _ _ b q hq
    exact ⟨h1, upd_ne (ne_of_none h2 h)⟩
  refine ⟨B, (p :: F1) ++ F2, e.trans (same_upd h), .cons (.own hB upd_same (keep a)) keep2, ?_⟩
  rw [List.cons_append]
  refine List.nodup_cons.mpr ⟨fun hp => ?_, n⟩
  obtain ⟨_, u, h2⟩ := OwAll.at _ _ _ (owAll_app2 a b) p hp
  rw [h] at h2; cases h2

/-- an own list is opened -/
theorem SP.openL {v : V} {us : List U} (s : SP K H ((v, .own us) :: ps)) : ∃ p vs, v = .ref p ∧ H p = some (.lst vs) ∧ vs.length = us.length ∧ SP K H ((.ref p, .hole) :: (vs.zip us ++ ps)) := by
  obtain ⟨B, F, e, w, n⟩ := s.ex
  cases w with
  | cons a b =>
    cases a with
    | @own p vs _ F1 h1 h2 h3 =>
      have hl := h3.length
      refine ⟨p, vs, rfl, h2, hl, B, _, e, .cons (.hole h1 h2) (by
        rw [List.map_append, List.map_append, zip_fst hl, zip_snd hl]
        exact owAll_app2 h3 b), ?_⟩
      simpa using n
theorem SP.newPr {p : Addr} {vs : List V} {us : List U} (s : SP K H (vs.zip us ++ ps)) (hl : vs.length = us.length) (h : H p = none) :
    SP K (upd H p (.tup vs)) ((.ref p, .pr us) :: ps) := by
  obtain ⟨B, F, e, w, n⟩ := s.ex
  rw [List.map_append, List.map_append, zip_fst hl, zip_snd hl] at w
  obtain ⟨F1, F2, e2, a, b⟩ := owAll_app hl w
  subst e2
  have hB : B p = none := e.free h
  have far : ∀ {ws : List V} {us : List U} {F : List Addr}, OwAll K B H ws us F → OwAll K B (upd H p (.tup vs)) ws us F := fun {ws us F} z => OwAll.chg (Same.refl _) _ _ _ z fun q hq => by
    obtain ⟨h1, u, h2⟩ := OwAll.at _ _ _ z q hq
    exact ⟨h1, upd_ne (ne_of_none h2 h)⟩
  refine ⟨B, (p :: F1) ++ F2, e.trans (same_upd h), .cons (.pr hB upd_same (far a)) (far b), ?_⟩
  rw [List.cons_append]
  refine List.nodup_cons.mpr ⟨fun hp => ?_, n⟩
  obtain ⟨_, u, h2⟩ := OwAll.at _ _ _ (owAll_app2 a b) p hp
  rw [h] at h2; cases h2
theorem SP.itemsP {v : V} {us : List U} (s : SP K H ((v, .pr us) :: ps)) : ∃ p vs, v = .ref p ∧ H p = some (.tup vs) ∧ vs.length = us.length ∧ SP K H (vs.zip us ++ ps) := by
  obtain ⟨B, F, e, w, n⟩ := s.ex
  cases w with
  | cons a b =>
    cases a with
    | @pr p vs _ F1 h1 h2 h3 =>
      have hl := h3.length
      refine ⟨p, vs, rfl, h2, hl, B, _, e, ?_, (List.nodup_cons.mp (by simpa using n : (p :: (F1 ++ _)).Nodup)).2⟩
      rw [List.map_append, List.map_append, zip_fst hl, zip_snd hl]
      exact owAll_app2 h3 b
theorem SP.openH {v : V} {us : List U} (s : SP K H ((v, .own us) :: ps)) : ∃ p vs, v = .ref p ∧ H p = some (.lst vs) ∧ vs.length = us.length ∧ SP K H ((.ref p, .hol (.lst vs)) :: (vs.zip us ++ ps)) := by
  obtain ⟨B, F, e, w, n⟩ := s.ex
  cases w with
  | cons a b =>
    cases a with
    | @own p vs _ F1 h1 h2 h3 =>
      have hl := h3.length
      refine ⟨p, vs, rfl, h2, hl, B, _, e, .cons (.hol h1 h2) (by
        rw [List.map_append, List.map_append, zip_fst hl, zip_snd hl]
        exact owAll_app2 h3 b), ?_⟩
      simpa using n
/-- .. and shut, the same items' places -/
theorem SP.shutH {p : Addr} {vs : List V} {us : List U} (s : SP K H ((.ref p, .hol (.lst vs)) :: (vs.zip us ++ ps))) (hl : vs.length = us.length) : SP K H ((.ref p, .own us) :: ps) := by
  obtain ⟨B, F, e, w, n⟩ := s.ex
  cases w with
  | cons a b =>
    cases a with
    | hol h1 h2 =>
      rw [List.map_append, List.map_append, zip_fst hl, zip_snd hl] at b
      obtain ⟨F1, F2, e2, b1, b2⟩ := owAll_app hl b
      subst e2
      exact ⟨B, (p :: F1) ++ F2, e, .cons (.own h1 h2 b1) b2, by simpa using n⟩
theorem SP.holeAt {v : V} (s : SP K H ((v, .hole) :: ps)) : ∃ p o, v = .ref p ∧ H p = some o := by
  obtain ⟨B, F, e, w, n⟩ := s.ex
  cases w with
  | cons a b => cases a with | hole h1 h2 => exact ⟨_, _, rfl, h2⟩
/-- .. and shut with new contents -/
theorem SP.shutL {p : Addr} {vs : List V} {us : List U} (s : SP K H ((.ref p, .hole) :: (vs.zip us ++ ps))) (hl : vs.length = us.length) : SP K (upd H p (.lst vs)) ((.ref p, .own us) :: ps) := by
  obtain ⟨B, F, e, w, n⟩ := s.ex
  cases w with
  | cons a b =>
    cases a with
    | hole h1 h2 =>
      rw [List.map_append, List.map_append, zip_fst hl, zip_snd hl] at b
      obtain ⟨F1, F2, e2, b1, b2⟩ := owAll_app hl b
      subst e2
      have n' : (p :: (F1 ++ F2)).Nodup := by simpa using n
      obtain ⟨np, n2⟩ := List.nodup_cons.mp n'
      have nq : ∀ q ∈ F1 ++ F2, q ≠ p := fun q hq z => np (z ▸ hq)
      refine ⟨B, (p :: F1) ++ F2, fun q o z => ?_, .cons (.own h1 upd_same (OwAll.chg (Same.refl _) _ _ _ b1 fun q hq => ⟨(OwAll.at _ _ _ b1 q hq).1, upd_ne (nq q (List.mem_append_left _ hq))⟩))
        (OwAll.chg (Same.refl _) _ _ _ b2 fun q hq => ⟨(OwAll.at _ _ _ b2 q hq).1, upd_ne (nq q (List.mem_append_right _ hq))⟩), by simpa using n'⟩
      by_cases hq : q = p
      · subst hq; rw [h1] at z; cases z
      · rw [upd_ne hq]; exact e _ _ z

/-- the items of data -/
theorem SP.itemsLN {v : V} {xs : List PyData} (s : SP K H ((v, .d (.list xs)) :: ps)) : ∃ a vs, v = .ref a ∧ LstN K H a vs ∧ vs.length = xs.length ∧ SP K H (vs.zip (xs.map .d) ++ (v, .d (.list xs)) :: ps) := by
  obtain ⟨B, F, e, w, n⟩ := s.ex
  cases w with
  | cons a b =>
    cases a with
    | d a =>
      cases a with
      | @lst a vs _ h1 h2 =>
        have hl := DqAll.len h2
        have hl' : vs.length = (xs.map U.d).length := by simpa using hl
        refine ⟨a, vs, rfl, LstNs e h1, hl, B, _, e, ?_, n⟩
        rw [List.map_append, List.map_append, zip_fst hl', zip_snd hl']
        exact owAll_app2 (d_of_dpAll h2) (.cons (F := []) (.d (.lst h1 h2)) b)
theorem SP.itemsL {v : V} {xs : List PyData} (s : SP K H ((v, .d (.list xs)) :: ps)) : ∃ a vs, v = .ref a ∧ SqL K H a vs ∧ vs.length = xs.length ∧ SP K H (vs.zip (xs.map .d) ++ (v, .d (.list xs)) :: ps) := by
  obtain ⟨a, vs, e, h, r⟩ := s.itemsLN
  exact ⟨a, vs, e, h.seq, r⟩
theorem SP.itemsTN {v : V} {xs : List PyData} (s : SP K H ((v, .d (.tuple xs)) :: ps)) : ∃ a vs, v = .ref a ∧ TupN K H a vs ∧ vs.length = xs.length ∧ SP K H (vs.zip (xs.map .d) ++ (v, .d (.tuple xs)) :: ps) := by
  obtain ⟨B, F, e, w, n⟩ := s.ex
  cases w with
  | cons a b =>
    cases a with
    | d a =>
      cases a with
      | @tup a vs _ h1 h2 =>
        have hl := DqAll.len h2
        have hl' : vs.length = (xs.map U.d).length := by simpa using hl
        refine ⟨a, vs, rfl, TupNs e h1, hl, B, _, e, ?_, n⟩
        rw [List.map_append, List.map_append, zip_fst hl', zip_snd hl']
        exact owAll_app2 (d_of_dpAll h2) (.cons (F := []) (.d (.tup h1 h2)) b)
theorem SP.itemsT {v : V} {xs : List PyData} (s : SP K H ((v, .d (.tuple xs)) :: ps)) : ∃ a vs, v = .ref a ∧ SqT K H a vs ∧ vs.length = xs.length ∧ SP K H (vs.zip (xs.map .d) ++ (v, .d (.tuple xs)) :: ps) := by
  obtain ⟨a, vs, e, h, r⟩ := s.itemsTN
  exact ⟨a, vs, e, h.seq, r⟩
end
end Vm
end
section
set_option Elab.async false
set_option linter.all false
set_option maxRecDepth 100000
namespace Vm
open PySem L2

/-! ### the value level: environments, results -/
abbrev Env := List (Option U)
structure Ex where
  cls : Str
  fs : List Str
  us : List U
inductive Res (α : Type) where
  | ok (a : α) (e : Env)
  | exc (x : Ex) (e : Env)
  | stuck
def Res.bind {α β : Type} (r : Res α) (k : α → Env → Res β) : Res β := match r with
  | .ok a e => k a e
  | .exc x e => .exc x e
  | .stuck => .stuck
@[simp] theorem Res.bind_ok {α β : Type} (a : α) (e : Env) (k : α → Env → Res β) : (Res.ok a e).bind k = k a e := rfl
@[simp] theorem Res.bind_exc {α β : Type} (x : Ex) (e : Env) (k : α → Env → Res β) : (Res.exc x e : Res α).bind k = .exc x e := rfl
@[simp] theorem Res.bind_stuck {α β : Type} (k : α → Env → Res β) : (Res.stuck : Res α).bind k = .stuck := rfl
inductive Rv where
  | pl (i : Nat)
  | tm (u : U)
inductive Fl where
  | next
  | ret (u : U)
  | brk
  | cont

/-! ### slots -/
def sl : St → Env → PL
  | some v :: σ, some u :: ς => (v, u) :: sl σ ς
  | _ :: σ, _ :: ς => sl σ ς
  | _, _ => []
theorem sl_cons_none (o : Option V) (σ : St) (ς : Env) : sl (o :: σ) (none :: ς) = sl σ ς := by cases o <;> rfl
theorem sl_none_cons (o : Option U) (σ : St) (ς : Env) : sl (none :: σ) (o :: ς) = sl σ ς := by cases o <;> rfl
theorem sl_take : ∀ {i : Nat} {σ : St} {ς : Env} {v : V} {u : U}, ς[i]? = some (some u) → σ[i]? = some (some v) → (sl σ ς).Perm ((v, u) :: sl σ (ς.set i none))
  | _, _, [], _, _, h, _ => by simp at h
  | _, [], _, _, _, _, h => by simp at h
  | 0, o :: σ, p :: ς, v, u, h1, h2 => by
    simp at h1 h2; subst h1; subst h2
    show List.Perm ((v, u) :: sl σ ς) ((v, u) :: sl (some v :: σ) (none :: ς))
    rw [sl_cons_none]
  | i + 1, o :: σ, p :: ς, v, u, h1, h2 => by
    have ih := sl_take (i := i) (σ := σ) (ς := ς) (v := v) (u := u) (by simpa using h1) (by simpa using h2)
    cases o with
    | none => rw [sl_none_cons, List.set_cons_succ, sl_none_cons]; exact ih
    | some o =>
      cases p with
      | none => rw [sl_cons_none, List.set_cons_succ, sl_cons_none]; exact ih
      | some p => exact (ih.cons (o, p)).trans (.swap _ _ _)
theorem sl_put : ∀ {i : Nat} {σ : St} {ς : Env} {v : V} (u : U), ς[i]? = some none → σ[i]? = some (some v) → (sl σ (ς.set i (some u))).Perm ((v, u) :: sl σ ς)
  | i, σ, ς, v, u, h1, h2 => by
    have hl : i < ς.length := (List.getElem?_eq_some_iff.mp h1).1
    have h := sl_take (i := i) (σ := σ) (ς := ς.set i (some u)) (v := v) (u := u) (by simp [hl]) h2
    rw [List.set_set] at h
    have e : ς.set i none = ς := by
      apply List.ext_getElem?; intro j
      by_cases hj : i = j
      · subst hj; rw [List.getElem?_set_self hl, h1]
      · rw [List.getElem?_set_ne hj]
    rw [e] at h; exact h
theorem sl_set : ∀ {i : Nat} {σ : St} {ς : Env} (v : V) (u : U), i < σ.length → i < ς.length → (sl (σ.set i (some v)) (ς.set i (some u))).Perm ((v, u) :: sl σ (ς.set i none))
  | _, [], _, _, _, h, _ => by simp at h
  | _, _, [], _, _, _, h => by simp at h
  | 0, o :: σ, p :: ς, v, u, h1, h2 => by
    show List.Perm ((v, u) :: sl σ ς) ((v, u) :: sl (o :: σ) (none :: ς))
    rw [sl_cons_none]
  | i + 1, o :: σ, p :: ς, v, u, h1, h2 => by
    have ih := sl_set (i := i) (σ := σ) (ς := ς) v u (by simpa using h1) (by simpa using h2)
    cases o with
    | none => simp only [List.set_cons_succ, sl_none_cons]; exact ih
    | some o =>
      cases p with
      | none => simp only [List.set_cons_succ, sl_cons_none]; exact ih
      | some p => exact (ih.cons (o, p)).trans (.swap _ _ _)
theorem sl_drop : ∀ (i : Nat) (σ : St) (ς : Env), ∃ qs, (sl σ ς).Perm (qs ++ sl σ (ς.set i none))
  | _, σ, [] => ⟨[], by cases σ <;> exact .refl _⟩
  | _, [], _ :: _ => ⟨[], by simp [sl]⟩
  | 0, o :: σ, p :: ς => by
    rw [List.set_cons_zero, sl_cons_none]
    cases o with
    | none => rw [sl_none_cons]; exact ⟨[], .refl _⟩
    | some o => cases p with
      | none => rw [sl_cons_none]; exact ⟨[], .refl _⟩
      | some p => exact ⟨[(o, p)], .refl _⟩
  | i + 1, o :: σ, p :: ς => by
    obtain ⟨qs, ih⟩ := sl_drop i σ ς
    rw [List.set_cons_succ]
    cases o with
    | none => rw [sl_none_cons, sl_none_cons]; exact ⟨qs, ih⟩
    | some o => cases p with
      | none => rw [sl_cons_none, sl_cons_none]; exact ⟨qs, ih⟩
      | some p => exact ⟨qs, (ih.cons (o, p)).trans List.perm_middle.symm⟩

structure SR (K : PySem.W.Frag) (H : Hp) (σ : St) (ς : Env) (tp : PL) : Prop where
  sp : SP K H (sl σ ς ++ tp)
  cov : ∀ (i : Nat) (u : U), ς[i]? = some (some u) → ∃ v, σ[i]? = some (some v)
  len : ς.length = σ.length

section
variable {K : PySem.W.Frag} {H H' : Hp} {σ σ' : St} {ς ς' : Env} {tp tq : PL}
/-- the pairs changed, the slots as they are -/
theorem SR.sub (s : SR K H σ ς tp) (h : SP K H' (sl σ ς ++ tq)) : SR K H' σ ς tq := ⟨h, s.cov, s.len⟩
theorem SR.perm (s : SR K H σ ς tp) (h : tp.Perm tq) : SR K H σ ς tq := s.sub (s.sp.perm (h.append_left _))
theorem front {α : Type} {a : α} {l m : List α} : (l ++ a :: m).Perm (a :: (l ++ m)) := List.perm_middle
/-- a pair of the temps ahead of all -/
theorem SR.ahead {p : V × U} (s : SR K H σ ς (p :: tp)) : SP K H (p :: (sl σ ς ++ tp)) := s.sp.perm front
theorem SR.of_ahead {p : V × U} (s : SR K H σ ς tq) (h : SP K H' (p :: (sl σ ς ++ tp))) : SR K H' σ ς (p :: tp) := s.sub (h.perm front.symm)
theorem SR.tail {p : V × U} (s : SR K H σ ς (p :: tp)) : SR K H σ ς tp := s.sub s.ahead.tail
theorem SR.dropL (s : SR K H σ ς (tq ++ tp)) : SR K H σ ς tp := by
  induction tq with
  | nil => exact s
  | cons p r ih => exact ih (SR.tail s)
/-- a slot's value -/
theorem SR.slot {i : Nat} {u : U} (s : SR K H σ ς tp) (h : ς[i]? = some (some u)) : ∃ v, σ[i]? = some (some v) ∧ SP K H ((v, u) :: (sl σ (ς.set i none) ++ tp)) := by
  obtain ⟨v, hv⟩ := s.cov i u h
  exact ⟨v, hv, s.sp.perm ((sl_take h hv).append_right _)⟩
theorem cov_set_none {i : Nat} (c : ∀ (i : Nat) (u : U), ς[i]? = some (some u) → ∃ v, σ[i]? = some (some v)) : ∀ (j : Nat) (u : U), (ς.set i none)[j]? = some (some u) → ∃ v, σ[j]? = some (some v) := fun j u h => by
  by_cases e : i = j
  · subst e
    by_cases hl : i < ς.length
    · rw [List.getElem?_set_self hl] at h; cases h
    · rw [List.getElem?_eq_none (by simpa using hl)] at h; cases h
  · rw [List.getElem?_set_ne e] at h; exact c j u h
theorem cov_set_some {i : Nat} {v : V} {u : U} (hv : σ[i]? = some (some v)) (c : ∀ (i : Nat) (u : U), ς[i]? = some (some u) → ∃ v, σ[i]? = some (some v)) : ∀ (j : Nat) (w : U), (ς.set i (some u))[j]? = some (some w) → ∃ v, σ[j]? = some (some v) := fun j w h => by
  by_cases e : i = j
  · subst e; exact ⟨v, hv⟩
  · rw [List.getElem?_set_ne e] at h; exact c j w h
/-- the slot's pair replaced -/
theorem SR.reslot {i : Nat} {u w : U} {v : V} (s : SR K H σ ς tq) (h : ς[i]? = some (some u)) (hv : σ[i]? = some (some v)) (p : SP K H' ((v, w) :: (sl σ (ς.set i none) ++ tp))) : SR K H' σ (ς.set i (some w)) tp := by
  have hl : i < ς.length := (List.getElem?_eq_some_iff.mp h).1
  refine ⟨p.perm ?_, cov_set_some hv s.cov, by rw [List.length_set]; exact s.len⟩
  have q := sl_take (i := i) (σ := σ) (ς := ς.set i (some w)) (v := v) (u := w) (by simp [hl]) hv
  rw [List.set_set] at q
  exact (q.append_right _).symm
theorem SR.unslot {i : Nat} (s : SR K H σ ς tq) (p : SP K H' (sl σ (ς.set i none) ++ tp)) : SR K H' σ (ς.set i none) tp := ⟨p, cov_set_none s.cov, by rw [List.length_set]; exact s.len⟩
/-- a slot is stored -/
theorem SR.store {i : Nat} {v : V} {u : U} (s : SR K H σ ς ((v, u) :: tp)) (hi : i < σ.length) : SR K H (σ.set i (some v)) (ς.set i (some u)) tp := by
  have hl : i < ς.length := by rw [s.len]; exact hi
  refine ⟨?_, fun j w h => ?_, by rw [List.length_set, List.length_set]; exact s.len⟩
  · have q := sl_set (i := i) (σ := σ) (ς := ς) v u hi hl
    refine SP.perm ?_ (q.append_right _).symm
    obtain ⟨qs, hq⟩ := sl_drop i σ ς
    have a := s.ahead
    have b : (((v, u) :: (sl σ ς ++ tp))).Perm (qs ++ ((v, u) :: sl σ (ς.set i none) ++ tp)) := by
      refine ((hq.append_right tp).cons _).trans ?_
      rw [List.append_assoc]
      exact front.symm
    exact (a.perm b).dropL
  · by_cases e : i = j
    · subst e; exact ⟨v, by rw [List.getElem?_set_self hi]⟩
    · rw [List.getElem?_set_ne e] at h ⊢; exact s.cov j w h
end

/-! ### values that operands give -/
def Rv.tmp : Rv → V → PL
  | .pl _, _ => []
  | .tm u, v => [(v, u)]
def Rv.at (σ : St) : Rv → V → Prop
  | .pl i, v => σ[i]? = some (some v)
  | .tm _, _ => True
def Rv.peek (ς : Env) : Rv → Option U
  | .pl i => match ς[i]? with
    | some (some u) => some u
    | _ => none
  | .tm u => some u
def U.sh : U → Bool
  | .d _ => true
  | .raw _ => true
  | .fn _ => true
  | _ => false
/-- taken for good: what is one's own is shared from now on, a temporary stays one's own -/
def Rv.share (ς : Env) : Rv → Option (U × Env)
  | .tm u => some (u, ς)
  | .pl i => match ς[i]? with
    | some (some u) => if u.sh then some (u, ς) else match u.toD with
      | some x => some (.d x, ς.set i (some (.d x)))
      | none => none
    | _ => none
/-- taken as data -/
def Rv.shareD (ς : Env) (r : Rv) : Option (PyData × Env) := match r.share ς with
  | some (u, ς') => match u.toD with
    | some x => some (x, ς')
    | none => none
  | none => none
/-- taken away -/
def Rv.take (ς : Env) : Rv → Option (U × Env)
  | .tm u => some (u, ς)
  | .pl i => match ς[i]? with
    | some (some u) => if u.sh then some (u, ς) else some (u, ς.set i (some .dead))
    | _ => none
def tmps : List Rv → List V → PL
  | r :: rs, v :: vs => r.tmp v ++ tmps rs vs
  | _, _ => []
def ats (σ : St) : List Rv → List V → Prop
  | [], [] => True
  | r :: rs, v :: vs => r.at σ v ∧ ats σ rs vs
  | _, _ => False
theorem ats.length {σ : St} : ∀ {rs : List Rv} {vs : List V}, ats σ rs vs → vs.length = rs.length
  | [], [], _ => rfl
  | _ :: _, _ :: _, h => by simp [ats.length h.2]
def sharesD : List Rv → Env → Option (List PyData × Env)
  | [], ς => some ([], ς)
  | r :: rs, ς => match r.shareD ς with
    | some (x, ς1) => match sharesD rs ς1 with
      | some (xs, ς2) => some (x :: xs, ς2)
      | none => none
    | none => none
def shares : List Rv → Env → Option (List U × Env)
  | [], ς => some ([], ς)
  | r :: rs, ς => match r.share ς with
    | some (x, ς1) => match shares rs ς1 with
      | some (xs, ς2) => some (x :: xs, ς2)
      | none => none
    | none => none
def take1 (ς : Env) : Rv → Option (U × Env)
  | .tm u => some (u, ς)
  | .pl i => match ς[i]? with
    | some (some u) => if u.sh then some (u, ς) else some (u, ς.set i none)
    | _ => none
def takeArgs : List Rv → Env → Option (List U × Env)
  | [], ς => some ([], ς)
  | r :: rs, ς => match take1 ς r with
    | some (u, ς1) => match takeArgs rs ς1 with
      | some (us, ς2) => some (u :: us, ς2)
      | none => none
    | none => none
def giveBack : List Rv → List U → Env → Env
  | .pl i :: rs, u :: us, ς => match ς[i]? with
    | some none => giveBack rs us (ς.set i (some u))
    | _ => giveBack rs us ς
  | .tm _ :: rs, _ :: us, ς => giveBack rs us ς
  | _, _, ς => ς
def peeks (ς : Env) : List Rv → Option (List PyData)
  | [] => some []
  | r :: rs => match r.peek ς with
    | some u => match u.toD, peeks ς rs with
      | some x, some xs => some (x :: xs)
      | _, _ => none
    | none => none

section
variable {K : PySem.W.Frag} {H H' : Hp} {σ σ' : St} {ς ς' : Env} {tp tq : PL}
theorem U.sh_dup {v : V} {u : U} {ps : PL} (s : SP K H ((v, u) :: ps)) (h : u.sh = true) : SP K H ((v, u) :: (v, u) :: ps) := by
  cases u with
  | d x => exact s.dup
  | fn x => exact s.dupF
  | raw w => have e := s.dupR; subst e; exact s.raw v
  | _ => cases h
theorem share_ok {r : Rv} {v : V} {u : U} (s : SR K H σ ς (r.tmp v ++ tp)) (a : r.at σ v) (h : r.share ς = some (u, ς')) : SR K H σ ς' ((v, u) :: tp) := by
  cases r with
  | tm w =>
    have e : (w, ς) = (u, ς') := by simpa [Rv.share] using h
    cases e; exact s
  | pl i =>
    have s : SR K H σ ς tp := s
    have a : σ[i]? = some (some v) := a
    cases hc : ς[i]? with
    | none => simp [Rv.share, hc] at h
    | some o =>
      cases o with
      | none => simp [Rv.share, hc] at h
      | some w =>
        obtain ⟨v', hv, p⟩ := s.slot hc
        rw [a] at hv; cases hv
        cases hs : w.sh with
        | true =>
          have e : w = u ∧ ς = ς' := by simpa [Rv.share, hc, hs] using h
          obtain ⟨e1, e2⟩ := e; subst e1; subst e2
          have q := U.sh_dup p hs
          refine s.of_ahead (q.perm ?_)
          exact ((sl_take hc a).append_right tp).symm.cons _
        | false =>
          cases hd : w.toD with
          | none => simp [Rv.share, hc, hs, hd] at h
          | some x =>
            have e : U.d x = u ∧ ς.set i (some (.d x)) = ς' := by simpa [Rv.share, hc, hs, hd] using h
            obtain ⟨e1, e2⟩ := e; subst e1; subst e2
            have q := (p.freeze hd).dup
            have q2 : SP K H ((v, U.d x) :: (sl σ (ς.set i none) ++ ((v, U.d x) :: tp))) := q.perm (front.symm.cons _)
            exact s.reslot hc a q2
theorem shareD_ok {r : Rv} {v : V} {x : PyData} (s : SR K H σ ς (r.tmp v ++ tp)) (a : r.at σ v) (h : r.shareD ς = some (x, ς')) : SR K H σ ς' ((v, .d x) :: tp) := by
  unfold Rv.shareD at h
  cases hs : r.share ς with
  | none => simp [hs] at h
  | some p =>
    obtain ⟨u, ς1⟩ := p
    cases hd : u.toD with
    | none => simp [hs, hd] at h
    | some y =>
      have e : y = x ∧ ς1 = ς' := by simpa [hs, hd] using h
      obtain ⟨e1, e2⟩ := e; subst e1; subst e2
      have q := share_ok s a hs
      exact q.of_ahead (q.ahead.freeze hd)
theorem take_ok {r : Rv} {v : V} {u : U} (s : SR K H σ ς (r.tmp v ++ tp)) (a : r.at σ v) (h : r.take ς = some (u, ς')) : SR K H σ ς' ((v, u) :: tp) := by
  cases r with
  | tm w =>
    have e : (w, ς) = (u, ς') := by simpa [Rv.take] using h
    cases e; exact s
  | pl i =>
    have s : SR K H σ ς tp := s
    have a : σ[i]? = some (some v) := a
    cases hc : ς[i]? with
    | none => simp [Rv.take, hc] at h
    | some o =>
      cases o with
      | none => simp [Rv.take, hc] at h
      | some w =>
        obtain ⟨v', hv, p⟩ := s.slot hc
        rw [a] at hv; cases hv
        cases hs : w.sh with
        | true =>
          have e : w = u ∧ ς = ς' := by simpa [Rv.take, hc, hs] using h
          obtain ⟨e1, e2⟩ := e; subst e1; subst e2
          exact s.of_ahead ((U.sh_dup p hs).perm (((sl_take hc a).append_right tp).symm.cons _))
        | false =>
          have e : w = u ∧ ς.set i (some .dead) = ς' := by simpa [Rv.take, hc, hs] using h
          obtain ⟨e1, e2⟩ := e; subst e1; subst e2
          have q2 : SP K H ((v, U.dead) :: (sl σ (ς.set i none) ++ ((v, w) :: tp))) := (p.dead v).perm (front.symm.cons _)
          exact s.reslot hc a q2
theorem tmps_app {r : Rv} {rs : List Rv} {v : V} {vs : List V} : tmps (r :: rs) (v :: vs) = r.tmp v ++ tmps rs vs := rfl
theorem sharesD_ok : ∀ {rs : List Rv} {vs : List V} {xs : List PyData} {ς ς' : Env} {tp : PL}, SR K H σ ς (tmps rs vs ++ tp) → ats σ rs vs → sharesD rs ς = some (xs, ς') → SR K H σ ς' (vs.zip (xs.map .d) ++ tp) ∧ xs.length = vs.length
  | [], [], xs, ς, ς', tp, s, _, h => by
    have e : [] = xs ∧ ς = ς' := by simpa [sharesD] using h
    obtain ⟨e1, e2⟩ := e; subst e1; subst e2
    exact ⟨s, rfl⟩
  | r :: rs, v :: vs, xs, ς, ς', tp, s, a, h => by
    cases h1 : r.shareD ς with
    | none => simp [sharesD, h1] at h
    | some p =>
      obtain ⟨x, ς1⟩ := p
      cases h2 : sharesD rs ς1 with
      | none => simp [sharesD, h1, h2] at h
      | some p =>
        obtain ⟨ys, ς2⟩ := p
        have e : x :: ys = xs ∧ ς2 = ς' := by simpa [sharesD, h1, h2] using h
        obtain ⟨e1, e2⟩ := e; subst e1; subst e2
        have s1 : SR K H σ ς (r.tmp v ++ (tmps rs vs ++ tp)) := by rw [← List.append_assoc]; exact s
        have s2 := shareD_ok s1 a.1 h1
        have s3 : SR K H σ ς1 (tmps rs vs ++ ((v, .d x) :: tp)) := s2.perm front.symm
        obtain ⟨s4, hl⟩ := sharesD_ok s3 a.2 h2
        exact ⟨s4.perm front, by simp [hl]⟩
  | [], _ :: _, _, _, _, _, _, a, _ => a.elim
  | _ :: _, [], _, _, _, _, _, a, _ => a.elim
theorem shares_ok : ∀ {rs : List Rv} {vs : List V} {xs : List U} {ς ς' : Env} {tp : PL}, SR K H σ ς (tmps rs vs ++ tp) → ats σ rs vs → shares rs ς = some (xs, ς') → SR K H σ ς' (vs.zip xs ++ tp) ∧ xs.length = vs.length
  | [], [], xs, ς, ς', tp, s, _, h => by
    have e : [] = xs ∧ ς = ς' := by simpa [shares] using h
    obtain ⟨e1, e2⟩ := e; subst e1; subst e2
    exact ⟨s, rfl⟩
  | r :: rs, v :: vs, xs, ς, ς', tp, s, a, h => by
    cases h1 : r.share ς with
    | none => simp [shares, h1] at h
    | some p =>
      obtain ⟨x, ς1⟩ := p
      cases h2 : shares rs ς1 with
      | none => simp [shares, h1, h2] at h
      | some p =>
        obtain ⟨ys, ς2⟩ := p
        have e : x :: ys = xs ∧ ς2 = ς' := by simpa [shares, h1, h2] using h
        obtain ⟨e1, e2⟩ := e; subst e1; subst e2
        have s1 : SR K H σ ς (r.tmp v ++ (tmps rs vs ++ tp)) := by rw [← List.append_assoc]; exact s
        have s2 := share_ok s1 a.1 h1
        have s3 : SR K H σ ς1 (tmps rs vs ++ ((v, x) :: tp)) := s2.perm front.symm
        obtain ⟨s4, hl⟩ := shares_ok s3 a.2 h2
        exact ⟨s4.perm front, by simp [hl]⟩
  | [], _ :: _, _, _, _, _, _, a, _ => a.elim
  | _ :: _, [], _, _, _, _, _, a, _ => a.elim
theorem take1_ok {r : Rv} {v : V} {u : U} (s : SR K H σ ς (r.tmp v ++ tp)) (a : r.at σ v) (h : take1 ς r = some (u, ς')) : SR K H σ ς' ((v, u) :: tp) := by
  cases r with
  | tm w =>
    have e : (w, ς) = (u, ς') := by simpa [take1] using h
    cases e; exact s
  | pl i =>
    have s : SR K H σ ς tp := s
    have a : σ[i]? = some (some v) := a
    cases hc : ς[i]? with
    | none => simp [take1, hc] at h
    | some o =>
      cases o with
      | none => simp [take1, hc] at h
      | some w =>
        obtain ⟨v', hv, p⟩ := s.slot hc
        rw [a] at hv; cases hv
        cases hs : w.sh with
        | true =>
          have e : w = u ∧ ς = ς' := by simpa [take1, hc, hs] using h
          obtain ⟨e1, e2⟩ := e; subst e1; subst e2
          exact s.of_ahead ((U.sh_dup p hs).perm (((sl_take hc a).append_right tp).symm.cons _))
        | false =>
          have e : w = u ∧ ς.set i none = ς' := by simpa [take1, hc, hs] using h
          obtain ⟨e1, e2⟩ := e; subst e1; subst e2
          exact s.unslot (p.perm front.symm)
theorem takeArgs_ok : ∀ {rs : List Rv} {vs : List V} {us : List U} {ς ς' : Env} {tp : PL}, SR K H σ ς (tmps rs vs ++ tp) → ats σ rs vs → takeArgs rs ς = some (us, ς') → SR K H σ ς' (vs.zip us ++ tp) ∧ us.length = vs.length
  | [], [], us, ς, ς', tp, s, _, h => by
    have e : [] = us ∧ ς = ς' := by simpa [takeArgs] using h
    obtain ⟨e1, e2⟩ := e; subst e1; subst e2
    exact ⟨s, rfl⟩
  | r :: rs, v :: vs, us, ς, ς', tp, s, a, h => by
    cases h1 : take1 ς r with
    | none => simp [takeArgs, h1] at h
    | some p =>
      obtain ⟨x, ς1⟩ := p
      cases h2 : takeArgs rs ς1 with
      | none => simp [takeArgs, h1, h2] at h
      | some p =>
        obtain ⟨ys, ς2⟩ := p
        have e : x :: ys = us ∧ ς2 = ς' := by simpa [takeArgs, h1, h2] using h
        obtain ⟨e1, e2⟩ := e; subst e1; subst e2
        have s1 : SR K H σ ς (r.tmp v ++ (tmps rs vs ++ tp)) := by rw [← List.append_assoc]; exact s
        have s2 := take1_ok s1 a.1 h1
        obtain ⟨s4, hl⟩ := takeArgs_ok (s2.perm front.symm) a.2 h2
        exact ⟨s4.perm front, by simp [hl]⟩
  | [], _ :: _, _, _, _, _, _, a, _ => a.elim
  | _ :: _, [], _, _, _, _, _, a, _ => a.elim
theorem giveBack_ok : ∀ {rs : List Rv} {vs : List V} {us : List U} {ς : Env} {tp : PL}, us.length = rs.length → SR K H σ ς (vs.zip us ++ tp) → ats σ rs vs → SR K H σ (giveBack rs us ς) tp
  | [], [], [], ς, tp, _, s, _ => s
  | .tm w :: rs, v :: vs, u :: us, ς, tp, hl, s, a => giveBack_ok (rs := rs) (by simpa using hl) (SR.tail s) a.2
  | .pl i :: rs, v :: vs, u :: us, ς, tp, hl, s, a => by
    have hl' : us.length = rs.length := by simpa using hl
    unfold giveBack
    split
    · rename_i hc
      have hv : σ[i]? = some (some v) := a.1
      refine giveBack_ok hl' (tp := tp) (vs := vs) ⟨?_, cov_set_some hv s.cov, by rw [List.length_set]; exact s.len⟩ a.2
      exact SP.perm (SR.ahead s) ((sl_put u hc hv).append_right _).symm
    · exact giveBack_ok hl' (SR.tail s) a.2
  | [], [], _ :: _, _, _, hl, _, _ => by simp at hl
  | [], _ :: _, _, _, _, _, _, a => a.elim
  | _ :: _, [], _, _, _, _, _, a => a.elim
  | .pl _ :: _, _ :: _, [], _, _, hl, _, _ => by simp at hl
  | .tm _ :: _, _ :: _, [], _, _, hl, _, _ => by simp at hl
/-- an operand is looked at -/
theorem peek_ok {r : Rv} {v : V} {u : U} {x : PyData} (s : SR K H σ ς (r.tmp v ++ tp)) (a : r.at σ v) (h : r.peek ς = some u) (hx : u.toD = some x) : Dp K H v x := by
  cases r with
  | tm w =>
    have e : w = u := by simpa [Rv.peek] using h
    subst e; exact (SR.ahead s).peek hx
  | pl i =>
    cases hc : ς[i]? with
    | none => simp [Rv.peek, hc] at h
    | some o =>
      cases o with
      | none => simp [Rv.peek, hc] at h
      | some w =>
        have e : w = u := by simpa [Rv.peek, hc] using h
        subst e
        have s : SR K H σ ς tp := s
        obtain ⟨v', hv, p⟩ := s.slot hc
        have a : σ[i]? = some (some v) := a
        rw [a] at hv; cases hv
        exact p.peek hx
theorem peeks_ok : ∀ {rs : List Rv} {vs : List V} {xs : List PyData} {tp : PL}, SR K H σ ς (tmps rs vs ++ tp) → ats σ rs vs → peeks ς rs = some xs → DpAll K H vs xs
  | [], [], xs, tp, s, _, h => by
    have e : [] = xs := by simpa [peeks] using h
    subst e; exact .nil
  | r :: rs, v :: vs, xs, tp, s, a, h => by
    cases h1 : r.peek ς with
    | none => simp [peeks, h1] at h
    | some u =>
      cases h2 : u.toD with
      | none => simp [peeks, h1, h2] at h
      | some x =>
        cases h3 : peeks ς rs with
        | none => simp [peeks, h1, h2, h3] at h
        | some ys =>
          have e : x :: ys = xs := by simpa [peeks, h1, h2, h3] using h
          subst e
          have s1 : SR K H σ ς (r.tmp v ++ (tmps rs vs ++ tp)) := by rw [← List.append_assoc]; exact s
          have s2 : SR K H σ ς (tmps rs vs ++ tp) := s1.dropL
          exact .cons (peek_ok s1 a.1 h1 h2) (peeks_ok s2 a.2 h3)
  | [], _ :: _, _, _, _, a, _ => a.elim
  | _ :: _, [], _, _, _, a, _ => a.elim
end
end Vm
end
section
set_option Elab.async false
set_option linter.all false
set_option maxRecDepth 100000
namespace Vm
open PySem L2

/-- an exception as it lies: its class by name, its own dict -/
def ExR (K : PySem.W.Frag) (H : Hp) (x : Ex) (cls : Value) (d : Option Addr) (ps : PL) : Prop :=
  cls = .ref (He.ga K x.cls) ∧ ((x.fs = [] ∧ d = none ∧ ps = []) ∨
    ∃ a vs, d = some a ∧ H a = some (.xd (x.fs.zip vs)) ∧ vs.length = x.us.length ∧ x.fs.length = x.us.length ∧ ps = vs.zip x.us)
def Pr (prot : Nat → Bool) (σ σ' : St) : Prop := σ'.length = σ.length ∧ ∀ i, prot i = true → σ'[i]? = σ[i]?
theorem Pr.refl {prot : Nat → Bool} (σ : St) : Pr prot σ σ := ⟨rfl, fun _ _ => rfl⟩
theorem Pr.trans {prot : Nat → Bool} {a b c : St} (h : Pr prot a b) (g : Pr prot b c) : Pr prot a c := ⟨g.1.trans h.1, fun i p => (g.2 i p).trans (h.2 i p)⟩

/-! ### what is wanted of a result -/
def OutE (K : PySem.W.Frag) (W : WX) (σ : St) (tp : PL) (Q : VK) : Res Rv → Prop
  | .ok r ς => ∀ v H, SR K H σ ς (r.tmp v ++ tp) → r.at σ v → Q v H
  | .exc x ς => ∀ cls d H ps, SR K H σ ς (ps ++ tp) → ExR K H x cls d ps → W cls d σ H
  | .stuck => False
def OutT (K : PySem.W.Frag) (W : WX) (σ : St) (tp : PL) (Q : Bool → Hp → Prop) : Res Bool → Prop
  | .ok b ς => ∀ H, SR K H σ ς tp → Q b H
  | .exc x ς => ∀ cls d H ps, SR K H σ ς (ps ++ tp) → ExR K H x cls d ps → W cls d σ H
  | .stuck => False
def OutA (K : PySem.W.Frag) (W : WX) (σ : St) (tp : PL) (Q : List V → Hp → Prop) : Res (List Rv) → Prop
  | .ok rs ς => ∀ vs H, SR K H σ ς (tmps rs vs ++ tp) → ats σ rs vs → Q vs H
  | .exc x ς => ∀ cls d H ps, SR K H σ ς (ps ++ tp) → ExR K H x cls d ps → W cls d σ H
  | .stuck => False
def OutS (K : PySem.W.Frag) (W : WX) (prot : Nat → Bool) (σ : St) (tp : PL) (D : Ends) : Res Fl → Prop
  | .ok .next ς => ∀ σ' H, SR K H σ' ς tp → Pr prot σ σ' → D.nx σ' H
  | .ok (.ret u) ς => ∀ σ' v H, SR K H σ' ς ((v, u) :: tp) → Pr prot σ σ' → D.rt v H
  | .ok .brk ς => ∀ σ' H, SR K H σ' ς tp → Pr prot σ σ' → D.bk σ' H
  | .ok .cont ς => ∀ σ' H, SR K H σ' ς tp → Pr prot σ σ' → D.ct σ' H
  | .exc x ς => ∀ σ' cls d H ps, SR K H σ' ς (ps ++ tp) → ExR K H x cls d ps → Pr prot σ σ' → W cls d σ' H
  | .stuck => False
theorem OutS.pr {K : PySem.W.Frag} {W : WX} {prot : Nat → Bool} {σ σ1 : St} {tp : PL} {D : Ends} {r : Res Fl} (p : Pr prot σ σ1) (h : OutS K W prot σ tp D r) : OutS K W prot σ1 tp D r := by
  cases r with
  | stuck => exact h
  | exc x ς => exact fun σ' cls d H ps s e q => h σ' cls d H ps s e (p.trans q)
  | ok f ς =>
    cases f with
    | next => exact fun σ' H s q => h σ' H s (p.trans q)
    | ret u => exact fun σ' v H s q => h σ' v H s (p.trans q)
    | brk => exact fun σ' H s q => h σ' H s (p.trans q)
    | cont => exact fun σ' H s q => h σ' H s (p.trans q)

def LE (K : PySem.W.Frag) (W : WX) (m : Env → Res Rv) : TE := fun σ H Q => ∃ ς tp, SR K H σ ς tp ∧ OutE K W σ tp Q (m ς)
def LT (K : PySem.W.Frag) (W : WX) (m : Env → Res Bool) : TT := fun σ H Q => ∃ ς tp, SR K H σ ς tp ∧ OutT K W σ tp Q (m ς)
def LA (K : PySem.W.Frag) (W : WX) (m : Env → Res (List Rv)) : TA := fun σ H Q => ∃ ς tp, SR K H σ ς tp ∧ OutA K W σ tp Q (m ς)
def LS (K : PySem.W.Frag) (W : WX) (prot : Nat → Bool) (m : Env → Res Fl) : TS := fun D σ H => ∃ ς tp, SR K H σ ς tp ∧ OutS K W prot σ tp D (m ς)

def DE (X : Cx) (W : WX) (e : Expr) (m : Env → Res Rv) : Prop := PE X e (LE X.K W m)
def DT (X : Cx) (W : WX) (e : Expr) (m : Env → Res Bool) : Prop := PT X e (LT X.K W m)
def DW (X : Cx) (W : WX) (e : Expr) (m : Env → Res Bool) : Prop := PW X e (LT X.K W m)
def DA (X : Cx) (W : WX) (es : List Expr) (m : Env → Res (List Rv)) : Prop := PA X es (LA X.K W m)
def DS (X : Cx) (W : WX) (prot : Nat → Bool) (s : Stmt) (m : Env → Res Fl) : Prop := PS X s (LS X.K W prot m)
def DSs (X : Cx) (W : WX) (prot : Nat → Bool) (s : List Stmt) (m : Env → Res Fl) : Prop := PSs X s (LS X.K W prot m)

section
variable {X : Cx} {W : WX} {prot : Nat → Bool} {e a b : Expr} {es : List Expr} {st : Stmt} {sts : List Stmt} {pos : Pos}
theorem pe_weak {t t' : TE} (h : PE X e t) (w : ∀ σ H Q, t' σ H Q → t σ H Q) : PE X e t' := ⟨fun pins s σ H Q I q => h.run pins s σ H Q I (w _ _ _ q)⟩
theorem pt_weak {t t' : TT} (h : PT X e t) (w : ∀ σ H Q, t' σ H Q → t σ H Q) : PT X e t' := ⟨fun pins s σ H Q I q => h.run pins s σ H Q I (w _ _ _ q)⟩
theorem pw_weak {t t' : TT} (h : PW X e t) (w : ∀ σ H Q, t' σ H Q → t σ H Q) : PW X e t' := ⟨fun wh pins s σ H Q I q => h.run wh pins s σ H Q I (w _ _ _ q)⟩
theorem pa_weak {t t' : TA} (h : PA X es t) (w : ∀ σ H Q, t' σ H Q → t σ H Q) : PA X es t' := ⟨fun pos pins s σ H Q I q => h.run pos pins s σ H Q I (w _ _ _ q)⟩
theorem ps_weak {t t' : TS} (h : PS X st t) (w : ∀ D σ H, t' D σ H → t D σ H) : PS X st t' := ⟨fun pins s σ H D I q => h.run pins s σ H D I (w _ _ _ q)⟩
theorem pss_weak {t t' : TS} (h : PSs X sts t) (w : ∀ D σ H, t' D σ H → t D σ H) : PSs X sts t' := ⟨fun pins s σ H D I q => h.run pins s σ H D I (w _ _ _ q)⟩

/-! ### names, constants -/
def mVar (i : Nat) : Env → Res Rv := fun ς => match ς[i]? with
  | some (some _) => .ok (.pl i) ς
  | _ => .stuck
def mC (x : PyData) : Env → Res Rv := fun ς => .ok (.tm (.d x)) ς
def mU (u : U) : Env → Res Rv := fun ς => .ok (.tm u) ς
theorem de_var (i : Nat) {x : Str} (hN : X.N[i]? = some x := by rfl) (hv : Vis X.env.scope x := by first | exact Or.inl rfl | exact Or.inr (Or.inl rfl) | exact Or.inr (Or.inr rfl)) (hd : (x == ("__debug__" : Str)) = false := by decide)
    (hcd : (x == ("__classdict__" : Str)) = false := by decide) : DE X W (.Name x pos) (mVar i) := by
  refine pe_weak (pe_var (i := i) hN hv hd hcd) fun σ H Q ⟨ς, tp, s, o⟩ => ?_
  unfold mVar at o
  cases hc : ς[i]? with
  | none => rw [hc] at o; exact o.elim
  | some u =>
    cases u with
    | none => rw [hc] at o; exact o.elim
    | some u =>
      rw [hc] at o
      obtain ⟨v, hv⟩ := s.cov i u hc
      exact ⟨v, hv, o v H s hv⟩
theorem le_c {K : PySem.W.Frag} {v : V} {x : PyData} {σ : St} {H : Hp} {Q : VK} (hd : ∀ B, Dq K B v x) (h : LE K W (mC x) σ H Q) : Q v H := by
  obtain ⟨ς, tp, s, o⟩ := h
  exact o v H (s.of_ahead (s.sp.put0 fun B _ => .d (hd B))) trivial
theorem de_int {i : Int} {j : Nat} : DE X W (.Constant (.int i) j pos) (mC (.int i)) := pe_weak pe_int fun σ H Q h => le_c (fun _ => .int i) h
theorem de_bl {b : Bool} {j : Nat} : DE X W (.Constant (.bool b) j pos) (mC (.bool b)) := pe_weak pe_bl fun σ H Q h => le_c (fun _ => .bl b) h
theorem de_non {j : Nat} : DE X W (.Constant .none j pos) (mC .none) := pe_weak pe_non fun σ H Q h => le_c (fun _ => .non) h
theorem de_str {x : Str} {j : Nat} : DE X W (.Constant (.str x) j pos) (mC (.str x)) := pe_weak pe_str fun σ H Q h => le_c (fun _ => .str x) h
/-- a module's constant: a scalar -/
def scV : PyData → Option V
  | .none => some .non
  | .bool b => some (.bl b)
  | .int i => some (.int i)
  | .str x => some (.str x)
  | _ => none
theorem scV_dp {K : PySem.W.Frag} {B : Hp} {x : PyData} {v : V} (h : scV x = some v) : Dq K B v x := by
  cases x <;> simp [scV] at h <;> subst h <;> first | exact .non | exact .bl _ | exact .int _ | exact .str _
theorem de_glob {x : Str} {v : V} {u : Value} {c : PyData} (hg : Gl X x) (hm : X.mg x = some u) (r : RelV v u) (hc : ∀ B, Dq X.K B v c) (hd : (x == ("__debug__" : Str)) = false := by decide) : DE X W (.Name x pos) (mC c) :=
  pe_weak (pe_glob hg hm r hd) fun σ H Q h => le_c hc h

/-! ### two operands -/
def m2 {α : Type} (ma mb : Env → Res Rv) (k : Rv → Rv → Env → Res α) : Env → Res α := fun ς => (ma ς).bind fun ra ς1 => (mb ς1).bind fun rb ς2 => k ra rb ς2
theorem le_2 {K : PySem.W.Frag} {ma mb : Env → Res Rv} {k : Rv → Rv → Env → Res Rv} {σ : St} {H : Hp} {Q : VK} {R : V → V → Hp → Prop}
    (h : LE K W (m2 ma mb k) σ H Q) (hk : ∀ x y H ra rb ς tp, SR K H σ ς (rb.tmp y ++ (ra.tmp x ++ tp)) → ra.at σ x → rb.at σ y → OutE K W σ tp Q (k ra rb ς) → R x y H) :
    LE K W ma σ H fun x H1 => LE K W mb σ H1 fun y H2 => R x y H2 := by
  obtain ⟨ς, tp, s, o⟩ := h
  refine ⟨ς, tp, s, ?_⟩
  unfold m2 at o
  cases h1 : ma ς with
  | stuck => rw [h1] at o; exact o
  | exc x ς1 => rw [h1] at o; exact o
  | ok ra ς1 =>
    rw [h1] at o
    intro x H1 s1 a1
    refine ⟨ς1, ra.tmp x ++ tp, s1, ?_⟩
    have o : OutE K W σ tp Q ((mb ς1).bind fun rb ς2 => k ra rb ς2) := o
    cases h2 : mb ς1 with
    | stuck => rw [h2] at o; exact o
    | exc y ς2 =>
      rw [h2] at o
      intro cls d H ps sx ex
      refine o cls d H ps ?_ ex
      have sx2 : SR K H σ ς2 (ra.tmp x ++ (ps ++ tp)) := sx.perm (by
        rw [← List.append_assoc, ← List.append_assoc]
        exact List.perm_append_comm.append_right _)
      exact sx2.dropL
    | ok rb ς2 =>
      rw [h2] at o
      intro y H2 s2 a2
      exact hk x y H2 ra rb ς2 tp s2 a1 a2 o
theorem lt_2 {K : PySem.W.Frag} {ma mb : Env → Res Rv} {k : Rv → Rv → Env → Res Bool} {σ : St} {H : Hp} {Q : Bool → Hp → Prop} {R : V → V → Hp → Prop}
    (h : LT K W (m2 ma mb k) σ H Q) (hk : ∀ x y H ra rb ς tp, SR K H σ ς (rb.tmp y ++ (ra.tmp x ++ tp)) → ra.at σ x → rb.at σ y → OutT K W σ tp Q (k ra rb ς) → R x y H) :
    LE K W ma σ H fun x H1 => LE K W mb σ H1 fun y H2 => R x y H2 := by
  obtain ⟨ς, tp, s, o⟩ := h
  refine ⟨ς, tp, s, ?_⟩
  unfold m2 at o
  cases h1 : ma ς with
  | stuck => rw [h1] at o; exact o
  | exc x ς1 => rw [h1] at o; exact o
  | ok ra ς1 =>
    rw [h1] at o
    intro x H1 s1 a1
    refine ⟨ς1, ra.tmp x ++ tp, s1, ?_⟩
    have o : OutT K W σ tp Q ((mb ς1).bind fun rb ς2 => k ra rb ς2) := o
    cases h2 : mb ς1 with
    | stuck => rw [h2] at o; exact o
    | exc y ς2 =>
      rw [h2] at o
      intro cls d H ps sx ex
      refine o cls d H ps ?_ ex
      have sx2 : SR K H σ ς2 (ra.tmp x ++ (ps ++ tp)) := sx.perm (by
        rw [← List.append_assoc, ← List.append_assoc]
        exact List.perm_append_comm.append_right _)
      exact sx2.dropL
    | ok rb ς2 =>
      rw [h2] at o
      intro y H2 s2 a2
      exact hk x y H2 ra rb ς2 tp s2 a1 a2 o
/-- both looked at -/
def pk2 {α : Type} (f : PyData → PyData → Option α) (ra rb : Rv) (ς : Env) : Option α := match ra.peek ς, rb.peek ς with
  | some u, some w => match u.toD, w.toD with
    | some x, some y => f x y
    | _, _ => none
  | _, _ => none
theorem pk2_ok {α : Type} {K : PySem.W.Frag} {f : PyData → PyData → Option α} {ra rb : Rv} {σ : St} {ς : Env} {tp : PL} {H : Hp} {x y : V} {c : α} (s : SR K H σ ς (rb.tmp y ++ (ra.tmp x ++ tp))) (a1 : ra.at σ x) (a2 : rb.at σ y) (h : pk2 f ra rb ς = some c) :
    ∃ d e, Dp K H x d ∧ Dp K H y e ∧ f d e = some c := by
  unfold pk2 at h
  split at h
  · rename_i u w h1 h2
    split at h
    · rename_i d e h3 h4
      exact ⟨d, e, peek_ok (tp := tp) s.dropL a1 h1 h3, peek_ok s a2 h2 h4, h⟩
    · cases h
  · cases h
/-- a scalar of two data -/
def kSc (f : PyData → PyData → Option PyData) (ra rb : Rv) (ς : Env) : Res Rv := match pk2 f ra rb ς with
  | some c => .ok (.tm (.d c)) ς
  | none => .stuck
/-- an operation on data gives the scalar f -/
def OpD (K : PySem.W.Frag) (f : PyData → PyData → Option PyData) (r : R2) : Prop := ∀ x y d e c H (Q : VK), Dp K H x d → Dp K H y e → f d e = some c → (∀ v, scV c = some v → Q v H) → r x y H Q
theorem op_sc {K : PySem.W.Frag} {f : PyData → PyData → Option PyData} {r : R2} (h : OpD K f r) {x y : V} {H : Hp} {ra rb : Rv} {σ : St} {ς : Env} {tp : PL} {Q : VK}
    (s : SR K H σ ς (rb.tmp y ++ (ra.tmp x ++ tp))) (a1 : ra.at σ x) (a2 : rb.at σ y) (o : OutE K W σ tp Q (kSc f ra rb ς)) : r x y H Q := by
  unfold kSc at o
  split at o
  · rename_i c hc
    obtain ⟨d, e, hd, he, hf⟩ := pk2_ok s a1 a2 hc
    refine h x y d e c H Q hd he hf fun v hv => o v H ?_ trivial
    have s0 : SR K H σ ς tp := (s.dropL (tq := rb.tmp y)).dropL
    exact s0.of_ahead (s0.sp.put0 fun B _ => .d (scV_dp hv))
  · exact o.elim
def mOp (f : PyData → PyData → Option PyData) (ma mb : Env → Res Rv) : Env → Res Rv := m2 ma mb (kSc f)
theorem de_op {op : Operator} {r : R2} {f : PyData → PyData → Option PyData} {ma mb : Env → Res Rv} (ho : OpR X (binaryOp op) r) (hf : OpD X.K f r) (ha : DE X W a ma) (hb : DE X W b mb) : DE X W (.BinOp a op b pos) (mOp f ma mb) :=
  pe_weak (pe_op ho ha hb) fun σ H Q h => le_2 h fun x y H ra rb ς tp s a1 a2 o => op_sc hf s a1 a2 o
theorem de_cmp {op : CmpOp} {r : R2} {f : PyData → PyData → Option PyData} {ma mb : Env → Res Rv} (ho : OpR X (compareOp op) r) (hf : OpD X.K f r) (hm : behindInMarks op b = false) (ha : DE X W a ma) (hb : DE X W b mb) : DE X W (.Compare a [op] [b] pos) (mOp f ma mb) :=
  pe_weak (pe_cmpR ho ha hb hm) fun σ H Q h => le_2 h fun x y H ra rb ς tp s a1 a2 o => op_sc hf s a1 a2 o
/-- as a test -/
def kTs (f : PyData → PyData → Option PyData) (ra rb : Rv) (ς : Env) : Res Bool := match pk2 f ra rb ς with
  | some (.bool c) => .ok c ς
  | _ => .stuck
def mTs (f : PyData → PyData → Option PyData) (ma mb : Env → Res Rv) : Env → Res Bool := m2 ma mb (kTs f)
theorem dt_cmp {op : CmpOp} {r : R2} {f : PyData → PyData → Option PyData} {ma mb : Env → Res Rv} (ho : OpR X (compareOp op) r) (hf : OpD X.K f r) (hm : behindInMarks op b = false) (ha : DE X W a ma) (hb : DE X W b mb) : DT X W (.Compare a [op] [b] pos) (mTs f ma mb) := by
  refine pt_weak (pt_cmpR ho ha hb hm) fun σ H Q h => lt_2 h fun x y H ra rb ς tp s a1 a2 o => ?_
  unfold kTs at o
  split at o
  · rename_i c hc
    obtain ⟨d, e, hd, he, hf'⟩ := pk2_ok s a1 a2 hc
    refine hf x y d e _ H _ hd he hf' fun v hv => ?_
    have e : V.bl c = v := by simpa [scV] using hv
    exact ⟨c, e.symm, o H ((s.dropL (tq := rb.tmp y)).dropL)⟩
  · exact o.elim

/-! ### one operand -/
def m1 {α : Type} (ma : Env → Res Rv) (k : Rv → Env → Res α) : Env → Res α := fun ς => (ma ς).bind k
theorem le_1 {K : PySem.W.Frag} {ma : Env → Res Rv} {k : Rv → Env → Res Rv} {σ : St} {H : Hp} {Q : VK} {R : V → Hp → Prop}
    (h : LE K W (m1 ma k) σ H Q) (hk : ∀ x H ra ς tp, SR K H σ ς (ra.tmp x ++ tp) → ra.at σ x → OutE K W σ tp Q (k ra ς) → R x H) : LE K W ma σ H R := by
  obtain ⟨ς, tp, s, o⟩ := h
  refine ⟨ς, tp, s, ?_⟩
  unfold m1 at o
  cases h1 : ma ς with
  | stuck => rw [h1] at o; exact o
  | exc x ς1 => rw [h1] at o; exact o
  | ok ra ς1 => rw [h1] at o; exact fun x H1 s1 a1 => hk x H1 ra ς1 tp s1 a1 o
theorem lt_1 {K : PySem.W.Frag} {ma : Env → Res Rv} {k : Rv → Env → Res Bool} {σ : St} {H : Hp} {Q : Bool → Hp → Prop} {R : V → Hp → Prop}
    (h : LT K W (m1 ma k) σ H Q) (hk : ∀ x H ra ς tp, SR K H σ ς (ra.tmp x ++ tp) → ra.at σ x → OutT K W σ tp Q (k ra ς) → R x H) : LE K W ma σ H R := by
  obtain ⟨ς, tp, s, o⟩ := h
  refine ⟨ς, tp, s, ?_⟩
  unfold m1 at o
  cases h1 : ma ς with
  | stuck => rw [h1] at o; exact o
  | exc x ς1 => rw [h1] at o; exact o
  | ok ra ς1 => rw [h1] at o; exact fun x H1 s1 a1 => hk x H1 ra ς1 tp s1 a1 o
def pk1 {α : Type} (f : PyData → Option α) (ra : Rv) (ς : Env) : Option α := match ra.peek ς with
  | some u => match u.toD with
    | some x => f x
    | none => none
  | none => none
theorem pk1_ok {α : Type} {K : PySem.W.Frag} {f : PyData → Option α} {ra : Rv} {σ : St} {ς : Env} {tp : PL} {H : Hp} {x : V} {c : α} (s : SR K H σ ς (ra.tmp x ++ tp)) (a1 : ra.at σ x) (h : pk1 f ra ς = some c) :
    ∃ d, Dp K H x d ∧ f d = some c := by
  unfold pk1 at h
  split at h
  · rename_i u h1
    split at h
    · rename_i d h3
      exact ⟨d, peek_ok s a1 h1 h3, h⟩
    · cases h
  · cases h
def kSc1 (f : PyData → Option PyData) (ra : Rv) (ς : Env) : Res Rv := match pk1 f ra ς with
  | some c => .ok (.tm (.d c)) ς
  | none => .stuck
def mUn (f : PyData → Option PyData) (ma : Env → Res Rv) : Env → Res Rv := m1 ma (kSc1 f)
def UnD (K : PySem.W.Frag) (f : PyData → Option PyData) (r : V → Hp → VK → Prop) : Prop := ∀ x d c H (Q : VK), Dp K H x d → f d = some c → (∀ v, scV c = some v → Q v H) → r x H Q
theorem un_sc {K : PySem.W.Frag} {f : PyData → Option PyData} {r : V → Hp → VK → Prop} (h : UnD K f r) {x : V} {H : Hp} {ra : Rv} {σ : St} {ς : Env} {tp : PL} {Q : VK}
    (s : SR K H σ ς (ra.tmp x ++ tp)) (a1 : ra.at σ x) (o : OutE K W σ tp Q (kSc1 f ra ς)) : r x H Q := by
  unfold kSc1 at o
  split at o
  · rename_i c hc
    obtain ⟨d, hd, hf⟩ := pk1_ok s a1 hc
    refine h x d c H Q hd hf fun v hv => o v H ?_ trivial
    have s0 : SR K H σ ς tp := s.dropL
    exact s0.of_ahead (s0.sp.put0 fun B _ => .d (scV_dp hv))
  · exact o.elim
theorem de_un {op : UnaryOp} {r : V → Hp → VK → Prop} {f : PyData → Option PyData} {ma : Env → Res Rv} (ho : UnR X (unaryOp op) r) (hf : UnD X.K f r) (ha : DE X W a ma) : DE X W (.UnaryOp op a pos) (mUn f ma) :=
  pe_weak (pe_un ho ha) fun σ H Q h => le_1 h fun x H ra ς tp s a1 o => un_sc hf s a1 o

/-! ### tests -/
/-- a value that is a bool, as a test -/
def kB (ra : Rv) (ς : Env) : Res Bool := match pk1 (fun d => some d) ra ς with
  | some (.bool c) => .ok c ς
  | _ => .stuck
def mB (ma : Env → Res Rv) : Env → Res Bool := m1 ma kB
theorem dt_val {ma : Env → Res Rv} (h : DE X W e ma) (he : ∀ whole, isTrue e X.env whole = (do let v ← whole; standAt e.pos; holding [v] (truthy v)) := by intro _; rfl) : DT X W e (mB ma) := by
  refine pt_weak (pt_val h he) fun σ H Q h => lt_1 h fun x H ra ς tp s a1 o => ?_
  unfold kB at o
  split at o
  · rename_i c hc
    obtain ⟨d, hd, hf⟩ := pk1_ok s a1 hc
    have e : d = .bool c := by simpa using hf
    subst e
    cases hd
    exact ⟨c, rfl, o H s.dropL⟩
  · exact o.elim
def mNot (t : Env → Res Bool) : Env → Res Bool := fun ς => (t ς).bind fun b ς1 => .ok (!b) ς1
def mAnd (t u : Env → Res Bool) : Env → Res Bool := fun ς => (t ς).bind fun b ς1 => if b then u ς1 else .ok false ς1
def mOr (t u : Env → Res Bool) : Env → Res Bool := fun ς => (t ς).bind fun b ς1 => if b then .ok true ς1 else u ς1
theorem lt_bind {K : PySem.W.Frag} {t : Env → Res Bool} {k : Bool → Env → Res Bool} {σ : St} {H : Hp} {Q : Bool → Hp → Prop} {R : Bool → Hp → Prop}
    (h : LT K W (fun ς => (t ς).bind k) σ H Q) (hk : ∀ b H ς tp, SR K H σ ς tp → OutT K W σ tp Q (k b ς) → R b H) : LT K W t σ H R := by
  obtain ⟨ς, tp, s, o⟩ := h
  refine ⟨ς, tp, s, ?_⟩
  have o : OutT K W σ tp Q ((t ς).bind k) := o
  cases h1 : t ς with
  | stuck => rw [h1] at o; exact o
  | exc x ς1 => rw [h1] at o; exact o
  | ok b ς1 => rw [h1] at o; exact fun H1 s1 => hk b H1 ς1 tp s1 o
theorem dt_not {t : Env → Res Bool} (h : DT X W a t) : DT X W (.UnaryOp .Not a pos) (mNot t) :=
  pt_weak (pt_not h) fun σ H Q h => lt_bind h fun b H ς tp s o => o H s
theorem dw_and1 {t : Env → Res Bool} (h : DT X W a t) : DW X W (.BoolOp .And [a] pos) t := pw_and1 h
theorem dw_or1 {t : Env → Res Bool} (h : DT X W a t) : DW X W (.BoolOp .Or [a] pos) t := pw_or1 h
theorem dw_and {t u : Env → Res Bool} {rest : List Expr} (h : DT X W a t) (g : DW X W (.BoolOp .And (b :: rest) pos) u) : DW X W (.BoolOp .And (a :: b :: rest) pos) (mAnd t u) :=
  pw_weak (pw_and h g) fun σ H Q h => lt_bind h fun b H ς tp s o => by
    cases b with
    | true => exact iteT ⟨ς, tp, s, o⟩
    | false => exact iteF (o H s)
theorem dw_or {t u : Env → Res Bool} {rest : List Expr} (h : DT X W a t) (g : DW X W (.BoolOp .Or (b :: rest) pos) u) : DW X W (.BoolOp .Or (a :: b :: rest) pos) (mOr t u) :=
  pw_weak (pw_or h g) fun σ H Q h => lt_bind h fun b H ς tp s o => by
    cases b with
    | true => exact iteT (o H s)
    | false => exact iteF ⟨ς, tp, s, o⟩
theorem dw_t {t : Env → Res Bool} (h : DW X W a t) : DT X W a t := PW.pt h

/-! ### and, or, not of bools as values -/
def rB (ra : Rv) (ς : Env) : Option Bool := match pk1 (fun d => some d) ra ς with
  | some (.bool c) => some c
  | _ => none
theorem rB_ok {K : PySem.W.Frag} {ra : Rv} {σ : St} {ς : Env} {tp : PL} {H : Hp} {x : V} {c : Bool} (s : SR K H σ ς (ra.tmp x ++ tp)) (a1 : ra.at σ x) (h : rB ra ς = some c) : x = .bl c := by
  unfold rB at h
  split at h
  · rename_i c' hc
    obtain ⟨d, hd, hf⟩ := pk1_ok s a1 hc
    have e : d = .bool c' := by simpa using hf
    have e2 : c' = c := by simpa using h
    subst e; subst e2
    cases hd; rfl
  · cases h
def mAndV (ma mb : Env → Res Rv) : Env → Res Rv := m1 ma fun ra ς => match rB ra ς with
  | some true => mb ς
  | some false => .ok (.tm (.d (.bool false))) ς
  | none => .stuck
def mOrV (ma mb : Env → Res Rv) : Env → Res Rv := m1 ma fun ra ς => match rB ra ς with
  | some false => mb ς
  | some true => .ok (.tm (.d (.bool true))) ς
  | none => .stuck
def mNotV (ma : Env → Res Rv) : Env → Res Rv := m1 ma fun ra ς => match rB ra ς with
  | some b => .ok (.tm (.d (.bool (!b)))) ς
  | none => .stuck
theorem SR.putD {K : PySem.W.Frag} {H : Hp} {σ : St} {ς : Env} {tp : PL} {v : V} {x : PyData} (s : SR K H σ ς tp) (h : scV x = some v) : SR K H σ ς ((v, .d x) :: tp) := s.of_ahead (s.sp.put0 fun B _ => .d (scV_dp h))
theorem de_and {ma mb : Env → Res Rv} {rest : List Expr} (h : DE X W a ma) (g : DE X W (.BoolOp .And (b :: rest) pos) mb) : DE X W (.BoolOp .And (a :: b :: rest) pos) (mAndV ma mb) :=
  pe_weak (pe_and h g) fun σ H Q h => le_1 h fun x H ra ς tp s a1 o => by
    cases hb : rB ra ς with
    | none => rw [hb] at o; exact o.elim
    | some c =>
      refine ⟨c, rB_ok s a1 hb, ?_⟩
      cases c with
      | true => rw [hb] at o; exact iteT ⟨ς, tp, s.dropL, o⟩
      | false => rw [hb] at o; exact iteF (o _ H (s.dropL.putD rfl) trivial)
theorem de_or {ma mb : Env → Res Rv} {rest : List Expr} (h : DE X W a ma) (g : DE X W (.BoolOp .Or (b :: rest) pos) mb) : DE X W (.BoolOp .Or (a :: b :: rest) pos) (mOrV ma mb) :=
  pe_weak (pe_or h g) fun σ H Q h => le_1 h fun x H ra ς tp s a1 o => by
    cases hb : rB ra ς with
    | none => rw [hb] at o; exact o.elim
    | some c =>
      refine ⟨c, rB_ok s a1 hb, ?_⟩
      cases c with
      | true => rw [hb] at o; exact iteT (o _ H (s.dropL.putD rfl) trivial)
      | false => rw [hb] at o; exact iteF ⟨ς, tp, s.dropL, o⟩
theorem de_one {op : BoolOp} {m : Env → Res Rv} (h : DE X W a m) : DE X W (.BoolOp op [a] pos) m := pe_one h
theorem de_not {ma : Env → Res Rv} (h : DE X W a ma) : DE X W (.UnaryOp .Not a pos) (mNotV ma) :=
  pe_weak (pe_not h) fun σ H Q h => le_1 h fun x H ra ς tp s a1 o => by
    cases hb : rB ra ς with
    | none => rw [hb] at o; exact o.elim
    | some c =>
      rw [hb] at o
      exact ⟨c, rB_ok s a1 hb, o _ H (s.dropL.putD rfl) trivial⟩
def mIf {α : Type} (t : Env → Res Bool) (ma mb : Env → Res α) : Env → Res α := fun ς => (t ς).bind fun b ς1 => if b then ma ς1 else mb ς1
theorem lt_bindE {K : PySem.W.Frag} {t : Env → Res Bool} {k : Bool → Env → Res Rv} {σ : St} {H : Hp} {Q : VK} {R : Bool → Hp → Prop}
    (h : LE K W (fun ς => (t ς).bind k) σ H Q) (hk : ∀ b H ς tp, SR K H σ ς tp → OutE K W σ tp Q (k b ς) → R b H) : LT K W t σ H R := by
  obtain ⟨ς, tp, s, o⟩ := h
  refine ⟨ς, tp, s, ?_⟩
  have o : OutE K W σ tp Q ((t ς).bind k) := o
  cases h1 : t ς with
  | stuck => rw [h1] at o; exact o
  | exc x ς1 => rw [h1] at o; exact o
  | ok b ς1 => rw [h1] at o; exact fun H1 s1 => hk b H1 ς1 tp s1 o
theorem de_if {c : Expr} {t : Env → Res Bool} {ma mb : Env → Res Rv} (hc : DT X W c t) (ha : DE X W a ma) (hb : DE X W b mb) : DE X W (.IfExp c a b pos) (mIf t ma mb) :=
  pe_weak (pe_ifExp hc ha hb) fun σ H Q h => lt_bindE h fun b H ς tp s o => by
    cases b with
    | true => exact iteT ⟨ς, tp, s, o⟩
    | false => exact iteF ⟨ς, tp, s, o⟩

/-! ### arguments, displays -/
def mNil : Env → Res (List Rv) := fun ς => .ok [] ς
def mCons (m : Env → Res Rv) (ms : Env → Res (List Rv)) : Env → Res (List Rv) := fun ς => (m ς).bind fun r ς1 => (ms ς1).bind fun rs ς2 => .ok (r :: rs) ς2
theorem da_nil : DA X W [] mNil := pa_weak pa_nil fun σ H Q ⟨ς, tp, s, o⟩ => o [] H s trivial
theorem da_cons {m : Env → Res Rv} {ms : Env → Res (List Rv)} (ha : DE X W e m) (hr : DA X W es ms) (hs : starEach (e :: es) X.env = (false, eval e X.env) :: starEach es X.env := by rfl) : DA X W (e :: es) (mCons m ms) := by
  refine pa_weak (pa_cons ha hr hs) fun σ H Q ⟨ς, tp, s, o⟩ => ⟨ς, tp, s, ?_⟩
  unfold mCons at o
  cases h1 : m ς with
  | stuck => rw [h1] at o; exact o
  | exc x ς1 => rw [h1] at o; exact o
  | ok r ς1 =>
    rw [h1] at o
    intro x H1 s1 a1
    refine ⟨ς1, r.tmp x ++ tp, s1, ?_⟩
    have o : OutA X.K W σ tp Q ((ms ς1).bind fun rs ς2 => .ok (r :: rs) ς2) := o
    cases h2 : ms ς1 with
    | stuck => rw [h2] at o; exact o
    | exc y ς2 =>
      rw [h2] at o
      intro cls d H ps sx ex
      refine o cls d H ps ?_ ex
      have sx2 : SR X.K H σ ς2 (r.tmp x ++ (ps ++ tp)) := sx.perm (by
        rw [← List.append_assoc, ← List.append_assoc]
        exact List.perm_append_comm.append_right _)
      exact sx2.dropL
    | ok rs ς2 =>
      rw [h2] at o
      intro vs H2 s2 a2
      refine o (x :: vs) H2 (s2.perm ?_) ⟨a1, a2⟩
      rw [tmps_app, ← List.append_assoc]
      exact List.perm_append_comm.append_right _
def mA {α : Type} (ms : Env → Res (List Rv)) (k : List Rv → Env → Res α) : Env → Res α := fun ς => (ms ς).bind k
theorem le_a {K : PySem.W.Frag} {ms : Env → Res (List Rv)} {k : List Rv → Env → Res Rv} {σ : St} {H : Hp} {Q : VK} {R : List V → Hp → Prop}
    (h : LE K W (mA ms k) σ H Q) (hk : ∀ vs H rs ς tp, SR K H σ ς (tmps rs vs ++ tp) → ats σ rs vs → OutE K W σ tp Q (k rs ς) → R vs H) : LA K W ms σ H R := by
  obtain ⟨ς, tp, s, o⟩ := h
  refine ⟨ς, tp, s, ?_⟩
  unfold mA at o
  cases h1 : ms ς with
  | stuck => rw [h1] at o; exact o
  | exc x ς1 => rw [h1] at o; exact o
  | ok rs ς1 => rw [h1] at o; exact fun vs H1 s1 a1 => hk vs H1 rs ς1 tp s1 a1 o
def mTup (ms : Env → Res (List Rv)) : Env → Res Rv := mA ms fun rs ς => match sharesD rs ς with
  | some (xs, ς1) => if xs.length ≤ 1000 then .ok (.tm (.d (.tuple xs))) ς1 else .stuck
  | none => .stuck
def mLst (ms : Env → Res (List Rv)) : Env → Res Rv := mA ms fun rs ς => match shares rs ς with
  | some (us, ς1) => if us.length ≤ 1000 then .ok (.tm (.own us)) ς1 else .stuck
  | none => .stuck
theorem le1000 {n : Nat} (h : n ≤ 1000) : n ≤ sizeLine := Nat.le_trans h (by decide)
theorem de_tup {ms : Env → Res (List Rv)} {k : Nat} (h : DA X W es ms) : DE X W (.Tuple es k pos) (mTup ms) :=
  pe_weak (pe_tupF h) fun σ H Q h => le_a h fun vs H rs ς tp s a o => by
    cases hs : sharesD rs ς with
    | none => simp only [hs] at o; exact o.elim
    | some p =>
      obtain ⟨xs, ς1⟩ := p
      simp only [hs] at o
      obtain ⟨s1, hl⟩ := sharesD_ok s a hs
      split at o
      · rename_i hz
        refine ⟨le1000 (hl ▸ hz), fun p ob hp ho => o _ _ ?_ trivial⟩
        have q : SP X.K H (vs.zip (xs.map U.d) ++ (sl σ ς1 ++ tp)) := s1.sp.perm (by
          rw [← List.append_assoc, ← List.append_assoc]
          exact List.perm_append_comm.append_right _)
        exact s1.of_ahead (q.newTup hl.symm ho hp)
      · exact o.elim
theorem de_lst {ms : Env → Res (List Rv)} (h : DA X W es ms) : DE X W (.List es pos) (mLst ms) :=
  pe_weak (pe_lst h) fun σ H Q h => le_a h fun vs H rs ς tp s a o => by
    cases hs : shares rs ς with
    | none => simp only [hs] at o; exact o.elim
    | some p =>
      obtain ⟨xs, ς1⟩ := p
      simp only [hs] at o
      obtain ⟨s1, hl⟩ := shares_ok s a hs
      split at o
      · rename_i hz
        refine ⟨le1000 (hl ▸ hz), fun p hp => o _ _ ?_ trivial⟩
        have q : SP X.K H (vs.zip xs ++ (sl σ ς1 ++ tp)) := s1.sp.perm (by
          rw [← List.append_assoc, ← List.append_assoc]
          exact List.perm_append_comm.append_right _)
        exact s1.of_ahead (q.newOwn hl.symm hp)
      · exact o.elim
/-- a call that gives a scalar of data -/
def kScA (f : List PyData → Option PyData) (rs : List Rv) (ς : Env) : Res Rv := match peeks ς rs with
  | some xs => match f xs with
    | some c => .ok (.tm (.d c)) ς
    | none => .stuck
  | none => .stuck
def CaD (K : PySem.W.Frag) (f : List PyData → Option PyData) (r : List V → Hp → VK → Prop) : Prop := ∀ vs ds c H (Q : VK), DpAll K H vs ds → f ds = some c → (∀ v, scV c = some v → Q v H) → r vs H Q
theorem ca_sc {K : PySem.W.Frag} {f : List PyData → Option PyData} {r : List V → Hp → VK → Prop} (h : CaD K f r) {vs : List V} {H : Hp} {rs : List Rv} {σ : St} {ς : Env} {tp : PL} {Q : VK}
    (s : SR K H σ ς (tmps rs vs ++ tp)) (a1 : ats σ rs vs) (o : OutE K W σ tp Q (kScA f rs ς)) : r vs H Q := by
  unfold kScA at o
  split at o
  · rename_i xs hx
    split at o
    · rename_i c hc
      exact h vs xs c H Q (peeks_ok s a1 hx) hc fun v hv => o v H (s.dropL.putD hv) trivial
    · exact o.elim
  · exact o.elim
def mCaB (f : List PyData → Option PyData) (ms : Env → Res (List Rv)) : Env → Res Rv := mA ms (kScA f)
section
variable {x : Str} {p : Pos} {id T : String} {r : List V → Hp → VK → Prop} {f : List PyData → Option PyData} {ms : Env → Res (List Rv)}
theorem de_callB (hc : CallR X (.builtin id) r) (hf : CaD X.K f r) (hg : Gl X x) (hm : X.mg x = none) (hv : bootBuiltins x = some (.builtin id)) (ha : DA X W (e :: es) ms) (hn : x ≠ "__name__" := by decide) (hdb : (x == ("__debug__" : Str)) = false := by decide)
    (he : starEach (e :: es) X.env = (false, eval e X.env) :: starEach es X.env := by rfl) (hpl : (backTo pos (starEach es X.env)).any (·.1) = false := by rfl) : DE X W (.Call (.Name x p) (e :: es) [] pos) (mCaB f ms) :=
  pe_weak (pe_callB hc hg hm hv ha hn hdb he hpl) fun σ H Q h => le_a h fun vs H rs ς tp s a o => ca_sc hf s a o
theorem de_callTy (hc : CallR X (.type T) r) (hf : CaD X.K f r) (hg : Gl X x) (hm : X.mg x = none) (hv : bootBuiltins x = some (.type T)) (ha : DA X W (e :: es) ms) (hn : x ≠ "__name__" := by decide) (hdb : (x == ("__debug__" : Str)) = false := by decide)
    (he : starEach (e :: es) X.env = (false, eval e X.env) :: starEach es X.env := by rfl) (hpl : (backTo pos (starEach es X.env)).any (·.1) = false := by rfl) : DE X W (.Call (.Name x p) (e :: es) [] pos) (mCaB f ms) :=
  pe_weak (pe_callTy hc hg hm hv ha hn hdb he hpl) fun σ H Q h => le_a h fun vs H rs ς tp s a o => ca_sc hf s a o
end

/-! ### statements -/
def mNext : Env → Res Fl := fun ς => .ok .next ς
def mSeq (m n : Env → Res Fl) : Env → Res Fl := fun ς => match m ς with
  | .ok .next ς1 => n ς1
  | r => r
theorem ls_next {K : PySem.W.Frag} {D : Ends} {σ : St} {H : Hp} (h : LS K W prot mNext D σ H) : D.nx σ H := by
  obtain ⟨ς, tp, s, o⟩ := h
  exact o σ H s (Pr.refl σ)
theorem dss_nil : DSs X W prot [] mNext := pss_weak pss_nil fun D σ H h => ls_next h
theorem ls_seq {K : PySem.W.Frag} {m n : Env → Res Fl} {D : Ends} {σ : St} {H : Hp} (h : LS K W prot (mSeq m n) D σ H) : tSeq (LS K W prot m) (LS K W prot n) D σ H := by
  obtain ⟨ς, tp, s, o⟩ := h
  refine ⟨ς, tp, s, ?_⟩
  unfold mSeq at o
  cases h1 : m ς with
  | stuck => rw [h1] at o; exact o
  | exc x ς1 => rw [h1] at o; exact o
  | ok f ς1 =>
    cases f with
    | next => rw [h1] at o; exact fun σ' H' s' p => ⟨ς1, tp, s', OutS.pr p o⟩
    | ret u => rw [h1] at o; exact o
    | brk => rw [h1] at o; exact o
    | cont => rw [h1] at o; exact o
theorem dss_cons {m n : Env → Res Fl} (h : DS X W prot st m) (g : DSs X W prot sts n) : DSs X W prot (st :: sts) (mSeq m n) := pss_weak (pss_cons h g) fun D σ H q => ls_seq q
theorem dss_one {m : Env → Res Fl} (h : DS X W prot st m) : DSs X W prot [st] m := pss_one h
theorem ds_pass : DS X W prot (.Pass pos) mNext := ps_weak ps_pass fun D σ H h => ls_next h
def mBrk : Env → Res Fl := fun ς => .ok .brk ς
def mCnt : Env → Res Fl := fun ς => .ok .cont ς
theorem ds_break : DS X W prot (.Break pos) mBrk := ps_weak ps_break fun D σ H ⟨ς, tp, s, o⟩ => o σ H s (Pr.refl σ)
theorem ds_continue : DS X W prot (.Continue pos) mCnt := ps_weak ps_continue fun D σ H ⟨ς, tp, s, o⟩ => o σ H s (Pr.refl σ)
theorem ds_never : DS X W prot st (fun _ => .stuck) := ps_weak ps_never fun D σ H ⟨ς, tp, s, o⟩ => o
theorem dss_never : DSs X W prot sts (fun _ => .stuck) := pss_weak pss_never fun D σ H ⟨ς, tp, s, o⟩ => o
theorem ls_e {K : PySem.W.Frag} {ma : Env → Res Rv} {k : Rv → Env → Res Fl} {σ : St} {H : Hp} {D : Ends} {R : V → Hp → Prop}
    (h : LS K W prot (m1 ma k) D σ H) (hk : ∀ x H ra ς tp, SR K H σ ς (ra.tmp x ++ tp) → ra.at σ x → OutS K W prot σ tp D (k ra ς) → R x H) : LE K W ma σ H R := by
  obtain ⟨ς, tp, s, o⟩ := h
  refine ⟨ς, tp, s, ?_⟩
  unfold m1 at o
  cases h1 : ma ς with
  | stuck => rw [h1] at o; exact o
  | exc x ς1 => rw [h1] at o; exact fun cls d H ps sx ex => o σ cls d H ps sx ex (Pr.refl σ)
  | ok ra ς1 => rw [h1] at o; exact fun x H1 s1 a1 => hk x H1 ra ς1 tp s1 a1 o
def mExpr (m : Env → Res Rv) : Env → Res Fl := m1 m fun _ ς => .ok .next ς
theorem ds_expr {m : Env → Res Rv} (he : DE X W e m) (hs : swapsWith e none pos.line X.env = pure false := by rfl) : DS X W prot (.Expr e pos) (mExpr m) :=
  ps_weak (ps_expr he hs) fun D σ H h => ls_e h fun x H ra ς tp s a o => o σ H s.dropL (Pr.refl σ)
def mRet (m : Env → Res Rv) : Env → Res Fl := m1 m fun r ς => match r.take ς with
  | some (u, ς1) => .ok (.ret u) ς1
  | none => .stuck
theorem ds_ret {m : Env → Res Rv} (he : DE X W e m) : DS X W prot (.Return (some e) pos) (mRet m) :=
  ps_weak (ps_ret he) fun D σ H h => ls_e h fun x H ra ς tp s a o => by
    cases hs : ra.take ς with
    | none => simp only [hs] at o; exact o.elim
    | some p =>
      obtain ⟨u, ς1⟩ := p
      simp only [hs] at o
      exact o σ x H (take_ok s a hs) (Pr.refl σ)
theorem ds_retN : DS X W prot (.Return none pos) (fun ς => .ok (.ret (.d .none)) ς) :=
  ps_weak ps_retN fun D σ H ⟨ς, tp, s, o⟩ => o σ .non H (s.putD rfl) (Pr.refl σ)
theorem lt_bindS {K : PySem.W.Frag} {t : Env → Res Bool} {k : Bool → Env → Res Fl} {σ : St} {H : Hp} {D : Ends} {R : Bool → Hp → Prop}
    (h : LS K W prot (fun ς => (t ς).bind k) D σ H) (hk : ∀ b H ς tp, SR K H σ ς tp → OutS K W prot σ tp D (k b ς) → R b H) : LT K W t σ H R := by
  obtain ⟨ς, tp, s, o⟩ := h
  refine ⟨ς, tp, s, ?_⟩
  have o : OutS K W prot σ tp D ((t ς).bind k) := o
  cases h1 : t ς with
  | stuck => rw [h1] at o; exact o
  | exc x ς1 => rw [h1] at o; exact fun cls d H ps sx ex => o σ cls d H ps sx ex (Pr.refl σ)
  | ok b ς1 => rw [h1] at o; exact fun H1 s1 => hk b H1 ς1 tp s1 o
theorem ds_if {c : Expr} {x y : List Stmt} {t : Env → Res Bool} {m n : Env → Res Fl} (hc : DT X W c t) (ha : DSs X W prot x m) (hb : DSs X W prot y n) : DS X W prot (.If c x y pos) (mIf t m n) :=
  ps_weak (ps_if hc ha hb) fun D σ H h => lt_bindS h fun b H ς tp s o => by
    cases b with
    | true => exact iteT ⟨ς, tp, s, o⟩
    | false => exact iteF ⟨ς, tp, s, o⟩

/-! ### targets -/
def OutG (K : PySem.W.Frag) (prot : Nat → Bool) (σ : St) (tp : PL) (Q : St → Hp → Prop) : Option Env → Prop
  | some ς => ∀ σ' H, SR K H σ' ς tp → Pr prot σ σ' → Q σ' H
  | none => False
def LG (K : PySem.W.Frag) (prot : Nat → Bool) (g : U → Env → Option Env) : TG := fun v σ H Q => ∃ u ς tp, SR K H σ ς ((v, u) :: tp) ∧ OutG K prot σ tp Q (g u ς)
def DG (X : Cx) (prot : Nat → Bool) (e : Expr) (g : U → Env → Option Env) : Prop := PG X e (LG X.K prot g)
def gN (i : Nat) : U → Env → Option Env := fun u ς => if i < ς.length then some (ς.set i (some u)) else none
theorem pg_weak {t t' : TG} (h : PG X e t) (w : ∀ v σ H Q, t' v σ H Q → t v σ H Q) : PG X e t' := ⟨fun pins s σ H v u Q I r q => h.run pins s σ H v u Q I r (w _ _ _ _ q)⟩
theorem pr_set {σ : St} {i : Nat} {o : Option V} (hp : prot i = false) : Pr prot σ (σ.set i o) := ⟨List.length_set .., fun j hj => by
  rw [List.getElem?_set_ne]
  rintro rfl
  rw [hp] at hj; cases hj⟩
theorem dg_name (i : Nat) {x : Str} (hN : X.N.Nodup) (hp : prot i = false := by rfl) (hi : X.N[i]? = some x := by rfl) (hx : Loc X.env.scope x := by first | exact Or.inl rfl | exact Or.inr rfl) (hf : X.fn x = true ∨ X.env.scope.names.lookup x = some .local := by first | exact .inl rfl | exact .inr rfl | assumption) :
    DG X prot (.Name x pos) (gN i) :=
  pg_weak (pg_name (i := i) hN hi hx hf) fun v σ H Q ⟨u, ς, tp, s, o⟩ => by
    unfold gN at o
    split at o
    · rename_i hl
      have hl' : i < σ.length := by rw [← s.len]; exact hl
      exact o _ H (s.store hl') (pr_set hp)
    · exact o.elim
def mAsg (m : Env → Res Rv) (g : U → Env → Option Env) : Env → Res Fl := m1 m fun r ς => match r.share ς with
  | some (u, ς1) => match g u ς1 with
    | some ς2 => .ok .next ς2
    | none => .stuck
  | none => .stuck
theorem asg_ok {K : PySem.W.Frag} {m : Env → Res Rv} {g : U → Env → Option Env} {D : Ends} {σ : St} {H : Hp} (h : LS K W prot (mAsg m g) D σ H) : tAsg (LE K W m) (LG K prot g) D σ H :=
  ls_e h fun x H ra ς tp s a o => by
    cases hs : ra.share ς with
    | none => simp only [hs] at o; exact o.elim
    | some p =>
      obtain ⟨u, ς1⟩ := p
      simp only [hs] at o
      refine ⟨u, ς1, tp, share_ok s a hs, ?_⟩
      cases hg : g u ς1 with
      | none => simp only [hg] at o; exact o.elim
      | some ς2 => simp only [hg] at o; exact o
theorem ds_set (i : Nat) {x : Str} {pos' : Pos} {m : Env → Res Rv} (he : DE X W e m) (hN : X.N.Nodup) (hp : prot i = false := by rfl) (hi : X.N[i]? = some x := by rfl) (hx : Loc X.env.scope x := by first | exact Or.inl rfl | exact Or.inr rfl) (hs : swapsWith e (some (.Name x pos')) pos.line X.env = pure false := by rfl)
    (hf : X.fn x = true ∨ X.env.scope.names.lookup x = some .local := by first | exact .inl rfl | exact .inr rfl | assumption) :
    DS X W prot (.Assign [.Name x pos'] e pos) (mAsg m (gN i)) :=
  ps_weak (ps_set (i := i) hN hi hx he hs hf) fun D σ H h => by
    obtain ⟨ς, tp, s, o⟩ := h
    refine ls_e (prot := prot) (k := fun r ς => match r.share ς with
      | some (u, ς1) => match gN i u ς1 with
        | some ς2 => .ok .next ς2
        | none => .stuck
      | none => .stuck) (D := D) ⟨ς, tp, s, o⟩ fun x H ra ς tp s a o => ?_
    cases hs : ra.share ς with
    | none => simp only [hs] at o; exact o.elim
    | some p =>
      obtain ⟨u, ς1⟩ := p
      simp only [hs] at o
      have s1 := share_ok s a hs
      unfold gN at o
      split at o
      · rename_i h2
        split at h2
        · rename_i hl
          cases h2
          have hl' : i < σ.length := by rw [← s1.len]; exact hl
          exact o _ H (s1.store hl') (pr_set hp)
        · cases h2
      · exact o.elim
/-- several targets -/
def LGs (K : PySem.W.Frag) (prot : Nat → Bool) (g : List U → Env → Option Env) : TGs := fun vs σ H Q => ∃ us ς tp, vs.length = us.length ∧ SR K H σ ς (vs.zip us ++ tp) ∧ OutG K prot σ tp Q (g us ς)
def DGs (X : Cx) (prot : Nat → Bool) (es : List Expr) (g : List U → Env → Option Env) : Prop := PGs X es (LGs X.K prot g)
def gsN : List U → Env → Option Env := fun us ς => match us with
  | [] => some ς
  | _ => none
def gsC (g : U → Env → Option Env) (gs : List U → Env → Option Env) : List U → Env → Option Env := fun us ς => match us with
  | u :: us => match g u ς with
    | some ς1 => gs us ς1
    | none => none
  | [] => none
theorem pgs_weak {t t' : TGs} (h : PGs X es t) (w : ∀ v σ H Q, t' v σ H Q → t v σ H Q) : PGs X es t' := ⟨fun pins s σ H v u Q I r q => h.run pins s σ H v u Q I r (w _ _ _ _ q)⟩
theorem dgs_nil : DGs X prot [] gsN := pgs_weak pgs_nil fun vs σ H Q ⟨us, ς, tp, hl, s, o⟩ => by
  cases us with
  | nil =>
    have e : vs = [] := List.length_eq_zero_iff.mp hl
    subst e
    exact ⟨rfl, o σ H s (Pr.refl σ)⟩
  | cons u us => exact o.elim
theorem OutG.pr {K : PySem.W.Frag} {σ σ1 : St} {tp : PL} {Q : St → Hp → Prop} {r : Option Env} (p : Pr prot σ σ1) (h : OutG K prot σ tp Q r) : OutG K prot σ1 tp Q r := by
  cases r with
  | none => exact h
  | some ς => exact fun σ' H s q => h σ' H s (p.trans q)
theorem dgs_cons {g : U → Env → Option Env} {gs : List U → Env → Option Env} (h : DG X prot e g) (r : DGs X prot es gs) (hs : (assignEach (e :: es) X.env).map (·.2) = assign e X.env :: (assignEach es X.env).map (·.2) := by rfl) : DGs X prot (e :: es) (gsC g gs) :=
  pgs_weak (pgs_cons h r hs) fun vs σ H Q ⟨us, ς, tp, hl, s, o⟩ => by
    cases us with
    | nil => exact o.elim
    | cons u us =>
      cases vs with
      | nil => simp at hl
      | cons v vs =>
        refine ⟨v, vs, rfl, u, ς, vs.zip us ++ tp, s, ?_⟩
        have o : OutG X.K prot σ tp Q (match g u ς with
          | some ς1 => gs us ς1
          | none => none) := o
        cases hg : g u ς with
        | none => rw [hg] at o; exact o.elim
        | some ς1 =>
          rw [hg] at o
          exact fun σ' H' s' p => ⟨us, ς1, tp, by simpa using hl, s', OutG.pr p o⟩
theorem mid_out {K : PySem.W.Frag} {H : Hp} {p : V × U} {as bs cs : PL} (s : SP K H (as ++ p :: (bs ++ cs))) : SP K H (bs ++ (as ++ cs)) := by
  have a : SP K H (as ++ (bs ++ cs)) := (s.perm front).tail
  refine a.perm ?_
  rw [← List.append_assoc, ← List.append_assoc]
  exact List.perm_append_comm.append_right _
def gT (n : Nat) (gs : List U → Env → Option Env) : U → Env → Option Env := fun u ς => match u with
  | .d (.tuple xs) => if xs.length = n then gs (xs.map .d) ς else none
  | .pr us => if us.length = n then gs us ς else none
  | .own us => if us.length = n then gs us ς else none
  | .d (.list xs) => if xs.length = n then gs (xs.map .d) ς else none
  | _ => none
theorem SP.itemsO {K : PySem.W.Frag} {H : Hp} {ps : PL} {v : V} {us : List U} (s : SP K H ((v, .own us) :: ps)) : ∃ p vs, v = .ref p ∧ H p = some (.lst vs) ∧ vs.length = us.length ∧ SP K H (vs.zip us ++ ps) := by
  obtain ⟨B, F, e, w, n⟩ := s.ex
  cases w with
  | @cons _ _ _ _ F G a b =>
    cases a with
    | @own p vs _ F' h1 h2 h3 =>
      refine ⟨p, vs, rfl, h2, OwAll.length h3, B, F' ++ G, e, ?_, ?_⟩
      · rw [List.map_append, List.map_append, zip_fst (OwAll.length h3), zip_snd (OwAll.length h3)]
        exact owAll_app2 h3 b
      · rw [List.cons_append] at n
        exact (List.nodup_cons.mp n).2
theorem pg_or {X : Cx} {e : Expr} {t u : TG} (h : PG X e t) (g : PG X e u) : PG X e (fun v σ H Q => t v σ H Q ∨ u v σ H Q) := ⟨fun pins s σ H v w Q I r q => q.elim (fun q => h.run pins s σ H v w Q I r q) (fun q => g.run pins s σ H v w Q I r q)⟩
theorem dg_tup {k n : Nat} {gs : List U → Env → Option Env} (hc : X.calm = true) (h : DGs X prot es gs) (hn : (assignEach es X.env).length = n := by rfl) (hst : (assignEach es X.env).findIdx? (·.1) = none := by rfl) : DG X prot (.Tuple es k pos) (gT n gs) :=
  pg_weak (pg_or (pg_tup hc h hn hst) (pg_unl hc h hn hst)) fun v σ H Q ⟨u, ς, tp, s, o⟩ => by
    unfold gT at o
    split at o
    · rename_i xs
      split at o
      · rename_i hl
        obtain ⟨a, vs, rfl, sq, hlen, sp⟩ := (SR.ahead s).itemsT
        refine .inl ⟨a, vs, rfl, sq, hlen.trans hl, xs.map .d, ς, tp, by simpa using hlen, s.sub (mid_out sp), o⟩
      · exact o.elim
    · rename_i us
      split at o
      · rename_i hl
        obtain ⟨a, vs, rfl, hp, hlen, sp⟩ := (SR.ahead s).itemsP
        refine .inl ⟨a, vs, rfl, .inl (.inl hp), hlen.trans hl, us, ς, tp, hlen, s.sub (sp.perm ?_), o⟩
        rw [← List.append_assoc, ← List.append_assoc]
        exact List.perm_append_comm.append_right _
      · exact o.elim
    · rename_i us
      split at o
      · rename_i hl
        obtain ⟨a, vs, rfl, hp, hlen, sp⟩ := (SR.ahead s).itemsO
        refine .inr ⟨a, vs, rfl, .inl (.inl hp), hlen.trans hl, us, ς, tp, hlen, s.sub (sp.perm ?_), o⟩
        rw [← List.append_assoc, ← List.append_assoc]
        exact List.perm_append_comm.append_right _
      · exact o.elim
    · rename_i xs
      split at o
      · rename_i hl
        obtain ⟨a, vs, rfl, sq, hlen, sp⟩ := (SR.ahead s).itemsL
        refine .inr ⟨a, vs, rfl, sq, hlen.trans hl, xs.map .d, ς, tp, by simpa using hlen, s.sub (mid_out sp), o⟩
      · exact o.elim
    · exact o.elim
end
end Vm
end
section
set_option Elab.async false
set_option linter.all false
set_option maxRecDepth 100000
namespace Vm
open PySem L2
/-! a def's contract where no repr is under way -/
abbrev NoG (A : Around) : Prop := A.guards = some []
structure FnG (P : Program) (w : World) (K : PySem.W.Frag) (mg : Str → Option Value) (base : Heap) (CX : CXT) (k : Nat) (f : Addr) (fd : FuncData) (ps : List Str) (sp : Sp) : Prop where
  long : ∀ {vs H Q E}, sp vs H Q E → vs.length = ps.length
  goes : ∀ {A : Around} {outer : List PySem.Env} {s : Shared} {H : Hp} {args : Args} {us : List Value} {vs : List V} {Q : VK} {E : XK},
    NoG A → Room k A → Env0 P w K mg base A outer s H → BindsTo s fd args (ps.zip us) → Vals vs us →
    sp vs H Q E → codeAny (model P w) A (.call (.ref f) args) (CR CX outer P w H s Q E) s
section
variable {P : Program} {w : World} {K : PySem.W.Frag} {mg : Str → Option Value} {base : Heap} {CX : CXT} {k : Nat} {f : Addr} {fd : FuncData} {ps : List Str} {sp : Sp}
theorem FnG.more {j : Nat} (F : FnG P w K mg base CX j f fd ps sp) (h : j ≤ k) : FnG P w K mg base CX k f fd ps sp :=
  ⟨F.long, fun g r => F.goes g (r.mono h)⟩
theorem FnG.of_ok (F : FnOk P w K mg base CX k f fd ps sp) : FnG P w K mg base CX k f fd ps sp :=
  ⟨fun h => F.len _ _ _ _ h, fun _ r e b v h => F.run _ _ _ _ _ _ _ _ _ r e b v h⟩
theorem FnG.of_def {x qual : Str} {params : Arguments} {body : List Stmt} {scope : Scope} {dvs : List V} {kws : List (Str × V)} {N : List Str}
    (D : FunD K x qual params body scope dvs kws f fd) (S : FnScope N ps scope) (len : ∀ vs H Q E, sp vs H Q E → vs.length = ps.length)
    (body_ok : ∀ (cdv : Value) (A : Around) (outer : List PySem.Env) (s : Shared) (H : Hp) (vs : List V) (Q : VK) (E : XK),
      let A' := A.deeper (PyProof.Rows.envOfC qual scope s.heap.objs.size f cdv)
      NoG A' → Room k A' → sp vs H Q E →
      ∃ t, PSs (cxOf CX P w K mg base N qual scope f cdv A outer s H E) body t ∧ t ⟨fun _ H' => Q .non H', Q, fun _ _ => False, fun _ _ => False⟩ (L2.start N vs) H) :
    FnG P w K mg base CX (k + 1) f fd ps sp := by
  obtain ⟨oc, od, dV, kV, doc, pm, an, cdv, ct, osl, rfl, look, hcode, -, -⟩ := D.ex
  refine ⟨fun h => len _ _ _ _ h, ?_⟩
  intro A outer s H args us vs Q E ng room env bnd rel want
  have old : ∀ b o, base.get? b = some o → s.heap.get? b = some o := fun b o e => (env.bs b o e).1
  have KX : K.In s.heap := env.mod.kin.keeps old
  have nolim : s.heap.NoLimit := env.mod.nolimit.keeps old
  have names : ∀ y ∈ ps.zip us, scope.names.lookup y.1 = some .local ∨
      (scope.names.lookup y.1 = some .cell ∧ ((cellsFrom (s.heap.objs.size + 1) scope.names []).lookup y.1).isSome = true) := by
    rintro ⟨n, v⟩ hy
    have := S.par n (List.of_mem_zip hy).1
    exact this.imp id fun q => ⟨q, PySem.W.cellsFrom_some _ _ _ (Or.inl q)⟩
  refine codeAny_call_function room.depth (KX _ _ look) rfl S.co S.gen rfl
    (PySem.W.codeRec_of KX hcode) (bnd _ _ _ _ (wpAny_newFunctionEnv_cells S.kind names ?_))
  rintro env' rfl s1 x
  refine ⟨nolim.keeps x.toInCall.keep, codeAny_func ?_⟩
  obtain ⟨t, ht, hq⟩ := body_ok cdv A outer s H vs Q E ng (room.deeper _) want
  have start := inv_start (CX := CX) (E := E) S room.hd env (len _ _ _ _ want) rel x
  refine wpAny_mono (ht.run [] s1 _ H _ start hq) ?_ (fun _ _ z => z)
  rintro fl s' hs
  cases fl with
  | next => obtain ⟨_, H', J, q⟩ := hs; exact ⟨.non, H', J.os, J.bare, J.base, J.hok, rfl, q⟩
  | ret u => obtain ⟨v, _, H', J, rv, q⟩ := hs; exact ⟨v, H', J.os, J.bare, J.base, J.hok, rv, q⟩
  | brk => obtain ⟨_, _, _, q⟩ := hs; exact q.elim
  | cont => obtain ⟨_, _, _, q⟩ := hs; exact q.elim
end
section
variable {X : Cx} {CX : CXT} {k : Nat} {f : Addr} {fd : FuncData} {ps : List Str} {sp : Sp} {dvs : List V} {ds : List Value} {E : St → XK} {x : Str} {p pos : Pos} {e : Expr} {es : List Expr} {t : TA}
theorem goG {pins : List (Addr × Obj)} {σ : St} {H : Hp} {s : Shared} {Q : VK} {args : Args} {us : List Value} {vs : List V}
    (F : FnG X.prog X.w X.K X.mg X.base CX k f fd ps sp) (ng : NoG X.A) (hr : Room k X.A) (hx : PassesAt CX X σ (E σ))
    (I : Inv X pins σ H s) (b : BindsTo s fd args (ps.zip us)) (r : Vals vs us) (h : sp vs H Q (E σ)) :
    codeAny (model X.prog X.w) X.A (.call (.ref f) args) (fun r s' => match r with
      | .ok (.ret u) => EP X pins σ Q u s'
      | .ok _ => False
      | .error e => X.xe e s') s := by
  refine codeAny_mono (F.goes ng hr I.env0 b r h) ?_
  rintro (e | fl) s' hq
  · exact hx pins H s e s' I hq
  · cases fl <;> first | exact I.after hq | exact hq.elim
theorem run_G {pins : List (Addr × Obj)} {σ : St} {H : Hp} {s : Shared} {Q : VK} {us : List Value} {vs : List V}
    (F : FnG X.prog X.w X.K X.mg X.base CX k f fd ps sp) (ng : NoG X.A) (hr : Room k X.A) (hb : Binds X.K fd ps ds) (hd : Vals dvs ds) (hx : PassesAt CX X σ (E σ))
    (I : Inv X pins σ H s) (r : Vals vs us) (h : sp (vs ++ dvs) H Q (E σ)) :
    wpAny (model X.prog X.w) X.A (call (.ref f) us) (EP X pins σ Q) X.xe s := by
  have all := r.append hd
  have hl : (us ++ ds).length = ps.length := all.length ▸ F.long h
  refine wpAny_call (codeAny_mono (goG F ng hr hx I (hb s us I.kIn hl) all h) ?_)
  rintro (e | fl) s' hq
  · exact hq
  · cases fl <;> first | exact hq | exact hq.elim
theorem pe_callG (F : FnG X.prog X.w X.K X.mg X.base CX k f fd ps sp) (ng : NoG X.A) (hr : Room k X.A) (hg : Gl X x) (hm : X.mg x = some (.ref f))
    (hk : PySem.W.keepIn X.K (.ref f) = true) (hb : Binds X.K fd ps ds) (hd : Vals dvs ds) (hx : ∀ σ, PassesAt CX X σ (E σ)) (ha : PA X (e :: es) t)
    (hdb : (x == ("__debug__" : Str)) = false := by decide) (he : starEach (e :: es) X.env = (false, eval e X.env) :: starEach es X.env := by rfl)
    (hpl : (backTo pos (starEach es X.env)).any (·.1) = false := by rfl) :
    PE X (.Call (.Name x p) (e :: es) [] pos) (tCallSD sp dvs E t) :=
  ⟨fun pins s σ H Q I h => wpAny_Call_Name_kw (ld_glob I hg hm (PySem.W.callWith_K (h₀ := X.base) I.ok.mod.kin hk
    (thn (ha.run pos pins s σ H _ I h) fun us s1 ⟨vs, H1, I1, r, q⟩ => ⟨I1.kIn, run_G F ng hr hb hd (hx σ) I1 r q⟩) he hpl) hdb)⟩
end
/-! ### the law's end -/
section
open PySem.Spec PyProof.Rows
variable {P : Program} {w : World} {K : PySem.W.Frag} {mg mb : Str → Option Value} {CX : CXT} {k : Nat} {fa a : Addr} {fd : FuncData} {x : Str} {sp : Sp} {s₁ : Shared} {vs : List Value} {ns : List Int}
abbrev FinR (s₁ : Shared) (r : Result) (s' : Shared) : Prop := r = .ok (.ret (.bool true)) ∧ OldK s₁.heap s'.heap ∧ s'.os = s₁.os ∧ AllBare s'.gens
/-- where nothing but the object at a is tracked -/
structure OneT (P : Program) (w : World) (K : PySem.W.Frag) (H : Hp) (h : Heap) (a : Addr) : Prop where
  only : Only H
  lies : HOk P w H h
  at_a : ∀ b, H b ≠ none → b = a
  free : H a ≠ none → K.lookup a = none
theorem law_core {H : Hp} {o : Obj} {its : Array Value} {n : Nat} (T : OneT P w K H s₁.heap a) (hS : LstN K H a (ns.map V.int))
    (KX : K.In s₁.heap) (hns : s₁.heap.Ns mainGlobals mg) (hb : s₁.heap.Ns builtinsNs mb) (hbb : ∀ x : Str, x ≠ "__name__" → mb x = bootBuiltins x)
    (hlim : s₁.heap.NoLimit) (hg : s₁.gens = #[]) (ha : s₁.heap.get? a = some o) (hao : o.data = .seq its n) (hr : Room k callerA)
    (F : ∀ base : Heap, K.In base → base.Ns mainGlobals mg → FnG P w K mg base CX k fa fd [x] sp)
    (hbind : ∀ (s : Shared) (u : Value), BindsTo s fd ⟨[u], []⟩ [(x, u)])
    (hsp : ∀ H : Hp, Only H → LstN K H a (ns.map V.int) → sp [.ref a] H (fun v _ => v = .bl true) fun _ _ _ => False)
    (hCX : ∀ H e s', CX [] H s₁ (fun _ _ _ => False) e s' → False) :
    codeAny (model P w) callerA (.call (.ref fa) ⟨[.ref a], []⟩) (FinR s₁) s₁ := by
  have isA : ∀ {b : Addr}, H b ≠ none → b = a := fun {b} q => T.at_a b q
  -- what is a dict is not tracked
  have noDict : ∀ {b : Addr} {o' : Obj} {es : Array DictEntry} {ep : Nat}, s₁.heap.get? b = some o' → o'.data = .dict es ep → H b = none := by
    intro b o' es ep e d
    rcases hq : H b with _ | u
    · rfl
    · have hba := isA (b := b) (by simp [hq])
      rw [hba, ha] at e
      cases e
      rw [hao] at d
      cases d
  have stay : ∀ {b : Addr} {o' : Obj}, s₁.heap.get? b = some o' → H b = none → (hidT s₁.heap H).get? b = some o' := fun e n => hidT_get e n
  have stayNs : ∀ {b : Addr} {m : Str → Option Value}, s₁.heap.Ns b m → (hidT s₁.heap H).Ns b m := by
    rintro b m ⟨o', es, ep, e, d, r⟩
    exact ⟨o', es, ep, stay e (noDict e d), d, r⟩
  have inBase : K.In (hidT s₁.heap H) := by
    intro b o' e
    refine stay (KX b o' e) ?_
    rcases hq : H b with _ | u
    · rfl
    · have hba := isA (b := b) (by simp [hq])
      have := T.free (by rw [← hba, hq]; simp)
      rw [hba, this] at e
      cases e
  obtain ⟨mc, hc1, hc2⟩ := hlim
  have mod : Mod K mg (hidT s₁.heap H) := ⟨inBase, stayNs hns, ⟨mb, stayNs hb, hbb⟩, ⟨mc, stayNs hc1, hc2⟩⟩
  have e0 : Env0 P w K mg (hidT s₁.heap H) callerA [] s₁ H :=
    { frames := rfl, mod := mod, bs := fun b o e => of_hidT e, bsz := Nat.le_of_eq (hidT_size _ _), funs := trivial, frf := nofun, hok := T.lies, bare := .of_eq hg }
  have go := (F _ inBase (stayNs hns)).goes (us := [.ref a]) (vs := [.ref a]) rfl hr e0 (hbind s₁ _) (.cons rfl .nil) (hsp H T.only hS)
  refine codeAny_mono go ?_
  rintro (e | fl) s' h
  · exact (hCX H e s' h).elim
  · cases fl with
    | next => exact h.elim
    | brk => exact h.elim
    | cont => exact h.elim
    | ret u =>
      obtain ⟨v, H', os, bare, un, lies', rv, (rfl : v = .bl true)⟩ := h
      obtain rfl : u = Value.bool true := rv
      refine ⟨rfl, OldK.of_keep fun b o' e => ?_, os, bare⟩
      rcases hq : H b with _ | t
      · exact un.keep b o' e hq nofun nofun
      · rcases T.only b with z | ⟨ob, xs, z⟩
        · rw [hq] at z; cases z
        · have before := (T.lies b _ z).1
          have after := (lies' b _ (un.frzs b ob _ z)).1
          rw [e] at before
          rw [after, ← before]
theorem law_goes (KX : K.In s₁.heap) (hns : s₁.heap.Ns mainGlobals mg) (hb : s₁.heap.Ns builtinsNs mb) (hbb : ∀ x : Str, x ≠ "__name__" → mb x = bootBuiltins x)
    (hlim : s₁.heap.NoLimit) (hg : s₁.gens = #[]) (ha : s₁.heap.get? a = some { cls := .type "list", data := .seq vs.toArray })
    (hi : IntsAre vs ns) (hl : ns.length ≤ sizeLine) (hr : Room k callerA)
    (F : ∀ base : Heap, K.In base → base.Ns mainGlobals mg → FnG P w K mg base CX k fa fd [x] sp)
    (hbind : ∀ (s : Shared) (u : Value), BindsTo s fd ⟨[u], []⟩ [(x, u)])
    (hsp : ∀ H : Hp, Only H → LstN K H a (ns.map V.int) → sp [.ref a] H (fun v _ => v = .bl true) fun _ _ _ => False)
    (hCX : ∀ H e s', CX [] H s₁ (fun _ _ _ => False) e s' → False) :
    codeAny (model P w) callerA (.call (.ref fa) ⟨[.ref a], []⟩) (FinR s₁) s₁ := by
  have rel : Vals (ns.map V.int) vs := vals_ints hi
  have go : ∀ {H : Hp}, OneT P w K H s₁.heap a → LstN K H a (ns.map V.int) → codeAny (model P w) callerA (.call (.ref fa) ⟨[.ref a], []⟩) (FinR s₁) s₁ :=
    fun T hS => law_core T hS KX hns hb hbb hlim hg ha rfl hr F hbind hsp hCX
  rcases hk : K.lookup a with _ | o
  · -- a new object: tracked
    let ob : Obj := { cls := .type "list", data := .seq vs.toArray }
    let H : Hp := fun b => if b = a then some (.frz ob (.lst (ns.map V.int))) else none
    have Ha : H a = some (.frz ob (.lst (ns.map V.int))) := if_pos rfl
    have Hb : ∀ {b}, b ≠ a → H b = none := fun h => if_neg h
    refine go (H := H) ⟨fun b => ?_, fun b u z => ?_, fun b z => ?_, fun _ => hk⟩ (.inl (.inr ⟨ob, Ha⟩))
    · by_cases e : b = a
      · exact .inr ⟨ob, _, e ▸ Ha⟩
      · exact .inl (Hb e)
    · by_cases e : b = a
      · subst e
        rw [Ha] at z
        cases z
        exact ⟨ha, by simpa using hl, vs, 0, rel, ha⟩
      · rw [Hb e] at z; cases z
    · exact Decidable.byContradiction fun e => z (Hb e)
  · -- one of the module's own
    have here := KX a o hk
    rw [ha] at here
    obtain rfl : _ = o := Option.some.inj here
    exact go (H := fun _ => none) ⟨fun _ => .inl rfl, nofun, fun _ z => (z rfl).elim, fun z => (z rfl).elim⟩
      (.inr ⟨vs, 0, hk, by simpa using hl, rel⟩)
theorem walkG {l : PySem.W.OpenLaw} {n : Nat} {q : Program} {loose : List Str} {XP : (Str → Option Value) → Heap → Prop} {YP : World → Heap → Prop} {d : DefRec} {CX : World → CXT}
    (hn : l.most = some n) (hn2 : n ≤ sizeLine) (hdf : d.params.defaults = []) (hr : Room k callerA)
    (F : ∀ (w : World) (mg : Str → Option Value) (fa : Addr) (h : Heap), YP w h → h.Ns mainGlobals mg → mg d.name = some (.ref fa) →
      ∃ (K : PySem.W.Frag) (fd : FuncData) (sp : Sp), K.In h ∧ (∀ (s : Shared) (u : Value), BindsTo s fd ⟨[u], []⟩ [(x, u)]) ∧
        (∀ (H : Hp) (a : Addr) (ns : List Int), ns.length ≤ n → Only H → LstN K H a (ns.map V.int) → sp [.ref a] H (fun v _ => v = .bl true) fun _ _ _ => False) ∧
        ∀ base : Heap, K.In base → base.Ns mainGlobals mg → FnG l.prog w K mg base (CX w) k fa fd [x] sp)
    (hCX : ∀ (w : World) (H : Hp) (s : Shared) (e : Value) (s' : Shared), CX w [] H s (fun _ _ _ => False) e s' → False) :
    PySem.W.WalkO q loose XP YP l.row.toRowW d [] (fun f vs => PySem.call f vs) := by
  refine Att.attach_call hn hdf ?_
  intro w s₀ s₁ mg mb fa o pm cd doc a vs ns G Y ho hd hcd hmg hobj hints hlen hg
  obtain ⟨K, fd, sp, KX, hb, hsp, hF⟩ := F w mg fa _ Y G.T.g hmg
  exact law_goes KX G.T.g G.T.b G.T.builtins G.T.nolimit hg hobj hints (Nat.le_trans hlen hn2) hr hF hb (fun H => hsp H a ns hlen) fun H e s' => hCX w H s₁ e s'
end
end Vm
end
section
set_option Elab.async false
set_option linter.all false
set_option maxRecDepth 100000
namespace Vm
open PySem L2

theorem swapL {α : Type} {a b c : List α} : (a ++ (b ++ c)).Perm (b ++ (a ++ c)) := by
  rw [← List.append_assoc, ← List.append_assoc]
  exact List.perm_append_comm.append_right _
/-! ### functions -/
inductive FR where
  | ok (u : U) (us : List U)
  | exc (x : Ex) (us : List U)
  | stuck
abbrev Phi := List U → FR
def OutF (K : PySem.W.Frag) (vs : List V) (tp : PL) (Q : VK) (E : XK) : FR → Prop
  | .ok u us => us.length = vs.length → ∀ v H, SP K H ((v, u) :: (vs.zip us ++ tp)) → Q v H
  | .exc x us => us.length = vs.length → ∀ cls d H ps, SP K H (ps ++ (vs.zip us ++ tp)) → ExR K H x cls d ps → E cls d H
  | .stuck => False
def spV (K : PySem.W.Frag) (n : Nat) (φ : Phi) : Sp := fun vs H Q E => ∃ us tp, vs.length = n ∧ us.length = n ∧ SP K H (vs.zip us ++ tp) ∧ OutF K vs tp Q E (φ us)

def outs (prot : Nat → Bool) : Nat → Nat → Env → List U
  | _, 0, _ => []
  | k, n + 1, [] => .dead :: outs prot (k + 1) n []
  | k, n + 1, o :: ς => (match o with
    | some u => if prot k then u else .dead
    | none => .dead) :: outs prot (k + 1) n ς
theorem outs_len (prot : Nat → Bool) : ∀ (n k : Nat) (ς : Env), (outs prot k n ς).length = n
  | 0, _, _ => rfl
  | n + 1, k, [] => by simp [outs, outs_len prot n]
  | n + 1, k, o :: ς => by simp [outs, outs_len prot n]
theorem sp_dead {K : PySem.W.Frag} {H : Hp} {ps : PL} : ∀ (vs : List V), SP K H ps → SP K H (vs.zip (vs.map fun _ => U.dead) ++ ps)
  | [], s => s
  | v :: vs, s => (sp_dead vs s).dead v
theorem outs_nil (prot : Nat → Bool) : ∀ (n k : Nat), outs prot k n [] = List.replicate n U.dead
  | 0, _ => rfl
  | n + 1, k => by simp [outs, outs_nil prot n, List.replicate_succ]
theorem outs_ok {K : PySem.W.Frag} {prot : Nat → Bool} : ∀ {vs : List V} {k : Nat} {σ : St} {ς : Env} {H : Hp} {tp : PL}, SP K H (sl σ ς ++ tp) → (∀ (i : Nat) (v : V), vs[i]? = some v → prot (k + i) = true → σ[i]? = some (some v)) →
    SP K H (vs.zip (outs prot k vs.length ς) ++ tp)
  | [], k, σ, ς, H, tp, s, _ => s.dropL
  | v :: vs, k, σ, [], H, tp, s, h => by
    have e : sl σ [] = [] := by
      cases σ with
      | nil => rfl
      | cons o σ => cases o <;> rfl
    rw [e] at s
    have e2 : outs prot k (v :: vs).length [] = (v :: vs).map fun _ => U.dead := by
      rw [outs_nil]
      induction (v :: vs) with
      | nil => rfl
      | cons a b ih => simp [List.replicate_succ, ih]
    rw [e2]
    exact sp_dead (v :: vs) s
  | v :: vs, k, [], o :: ς, H, tp, s, h => by
    have s : SP K H (sl [] ς ++ tp) := by cases ς <;> exact s
    have ih := outs_ok (vs := vs) (k := k + 1) (σ := []) (ς := ς) (prot := prot) s fun i w hi hp => by
      have q := h (i + 1) w (by simpa using hi) (by rw [← hp]; congr 1; omega)
      simp at q
    show SP K H ((v, _) :: (vs.zip (outs prot (k + 1) vs.length ς) ++ tp))
    cases o with
    | none => exact ih.dead v
    | some u =>
      cases hp : prot k with
      | false => simp only [hp]; exact ih.dead v
      | true =>
        have q := h 0 v rfl (by simpa using hp)
        simp at q
  | v :: vs, k, p :: σ, o :: ς, H, tp, s, h => by
    have h' : ∀ (i : Nat) (w : V), vs[i]? = some w → prot (k + 1 + i) = true → σ[i]? = some (some w) := fun i w hi hp => by
      have q := h (i + 1) w (by simpa using hi) (by rw [← hp]; congr 1; omega)
      simpa using q
    show SP K H ((v, _) :: (vs.zip (outs prot (k + 1) vs.length ς) ++ tp))
    cases o with
    | none =>
      rw [sl_cons_none] at s
      exact (outs_ok (vs := vs) (k := k + 1) s h').dead v
    | some u =>
      cases hp : prot k with
      | false =>
        simp only [hp]
        refine SP.dead ?_ v
        cases p with
        | none => rw [sl_none_cons] at s; exact outs_ok (vs := vs) (k := k + 1) s h'
        | some w => exact outs_ok (vs := vs) (k := k + 1) (SP.tail (ps := sl σ ς ++ tp) s) h'
      | true =>
        have q := h 0 v rfl (by simpa using hp)
        have q' : p = some v := by simpa using q
        subst q'
        have s2 : SP K H (sl σ ς ++ ((v, u) :: tp)) := SP.perm (ps := (v, u) :: (sl σ ς ++ tp)) s front.symm
        have ih := outs_ok (vs := vs) (k := k + 1) s2 h'
        simp only [if_pos]
        exact ih.perm front
def runFn (N n : Nat) (prot : Nat → Bool) (m : Env → Res Fl) : Phi := fun us => match m (us.map some ++ List.replicate (N - us.length) none) with
  | .ok (.ret u) ς => .ok u (outs prot 0 n ς)
  | .ok .next ς => .ok (.d .none) (outs prot 0 n ς)
  | .exc x ς => .exc x (outs prot 0 n ς)
  | _ => .stuck
theorem sl_start : ∀ (vs : List V) (us : List U) (k : Nat), vs.length = us.length → sl (vs.map some ++ List.replicate k none) (us.map some ++ List.replicate k none) = vs.zip us
  | [], [], k, _ => by
    induction k with
    | zero => rfl
    | succ k ih => simpa [List.replicate_succ, sl] using ih
  | v :: vs, u :: us, k, h => by
    have ih := sl_start vs us k (by simpa using h)
    simp only [List.map_cons, List.cons_append, sl, ih, List.zip_cons_cons]
  | [], _ :: _, _, h => by simp at h
  | _ :: _, [], _, h => by simp at h
theorem start_SR {K : PySem.W.Frag} {H : Hp} {N : List Str} {vs : List V} {us : List U} {tp : PL} (hl : vs.length = us.length) (s : SP K H (vs.zip us ++ tp)) :
    SR K H (L2.start N vs) (us.map some ++ List.replicate (N.length - us.length) none) tp := by
  unfold L2.start
  rw [hl]
  refine ⟨by rw [sl_start vs us _ hl]; exact s, fun i u h => ?_, by simp [hl]⟩
  have hi : i < us.length := by
    by_cases hi : i < us.length
    · exact hi
    · rw [List.getElem?_append_right (by simpa using hi)] at h
      rw [List.getElem?_replicate] at h
      split at h <;> simp at h
  have hi' : i < vs.length := by omega
  exact ⟨vs[i], by rw [List.getElem?_append_left (by simpa using hi')]; simp [hi']⟩
theorem sp_len {K : PySem.W.Frag} {n : Nat} {φ : Phi} {ps : List Str} (hn : n = ps.length) : ∀ vs H Q E, spV K n φ vs H Q E → vs.length = ps.length := fun vs H Q E ⟨_, _, h, _⟩ => h.trans hn
/-- a body's end from what the promise wants -/
theorem fn_end {K : PySem.W.Frag} {N : List Str} {n : Nat} {prot : Nat → Bool} {m : Env → Res Fl} {vs : List V} {H : Hp} {Q : VK} {E : XK} (h : spV K n (runFn N.length n prot m) vs H Q E) :
    LS K (fun cls d _ H => E cls d H) prot m { nx := fun _ H' => Q .non H', rt := Q } (L2.start N vs) H := by
  obtain ⟨us, tp, hv, hu, s, o⟩ := h
  have hl : vs.length = us.length := hv.trans hu.symm
  refine ⟨_, tp, start_SR (N := N) hl s, ?_⟩
  have at0 : ∀ (i : Nat) (v : V) (σ' : St), Pr prot (L2.start N vs) σ' → vs[i]? = some v → prot (0 + i) = true → σ'[i]? = some (some v) := fun i v σ' p hi hp => by
    rw [p.2 i (by simpa using hp)]
    have hi' : i < vs.length := (List.getElem?_eq_some_iff.mp hi).1
    unfold L2.start
    rw [List.getElem?_append_left (by simpa using hi')]
    simp [hi]
  have fin : ∀ (ς : Env) (σ' : St) (H' : Hp) (tq : PL), SR K H' σ' ς tq → Pr prot (L2.start N vs) σ' → SP K H' (vs.zip (outs prot 0 n ς) ++ tq) := fun ς σ' H' tq s p => by
    have q := outs_ok (prot := prot) (k := 0) (vs := vs) s.sp fun i v hi hp => at0 i v σ' p hi hp
    rw [hv] at q; exact q
  have ol : ∀ ς, (outs prot 0 n ς).length = vs.length := fun ς => (outs_len prot n 0 ς).trans hv.symm
  unfold runFn at o
  cases hm : m (us.map some ++ List.replicate (N.length - us.length) none) with
  | stuck => rw [hm] at o; exact o
  | exc x ς =>
    rw [hm] at o
    refine fun σ' cls d H' ps s' ex p => o (ol ς) cls d H' ps ?_ ex
    refine (fin ς σ' H' (ps ++ tp) s' p).perm ?_
    rw [← List.append_assoc, ← List.append_assoc]
    exact List.perm_append_comm.append_right _
  | ok f ς =>
    rw [hm] at o
    cases f with
    | next => exact fun σ' H' s' p => o (ol ς) .non H' (SP.put0 (fin ς σ' H' tp s' p) fun B _ => .d .non)
    | ret u => exact fun σ' v H' s' p => o (ol ς) v H' ((fin ς σ' H' _ s' p).perm front)
    | brk => exact o.elim
    | cont => exact o.elim

/-- THE RULE for a def -/
theorem fn_ok {P : Program} {w : World} {K : PySem.W.Frag} {mg : Str → Option Value} {base : Heap} {x qual : Str} {params : Arguments} {body : List Stmt} {scope : Scope} {dvs : List V} {kws : List (Str × V)} {f : Addr} {fd : FuncData}
    {N ps : List Str} {k : Nat} {prot : Nat → Bool} {m : Env → Res Fl} (F : FunD K x qual params body scope dvs kws f fd) (S : FnScope N ps scope)
    (hb : ∀ (cdv : Value) (A : Around) (outer : List PySem.Env) (s : Shared) (H : Hp) (E : XK), Room k (A.deeper (PyProof.Rows.envOfC qual scope s.heap.objs.size f cdv)) →
      DSs (cxOf (L2.CX P w) P w K mg base N qual scope f cdv A outer s H E) (fun cls d _ H => E cls d H) prot body m) :
    FnOk P w K mg base (L2.CX P w) (k + 1) f fd ps (spV K ps.length (runFn N.length ps.length prot m)) :=
  F.ok S (sp_len rfl) fun cdv A outer s H vs Q E hr h => ⟨_, hb cdv A outer s H E hr, fn_end h⟩
theorem fn_okG {P : Program} {w : World} {K : PySem.W.Frag} {mg : Str → Option Value} {base : Heap} {x qual : Str} {params : Arguments} {body : List Stmt} {scope : Scope} {dvs : List V} {kws : List (Str × V)} {f : Addr} {fd : FuncData}
    {N ps : List Str} {k : Nat} {prot : Nat → Bool} {m : Env → Res Fl} (F : FunD K x qual params body scope dvs kws f fd) (S : FnScope N ps scope)
    (hb : ∀ (cdv : Value) (A : Around) (outer : List PySem.Env) (s : Shared) (H : Hp) (E : XK),
      NoG (A.deeper (PyProof.Rows.envOfC qual scope s.heap.objs.size f cdv)) → Room k (A.deeper (PyProof.Rows.envOfC qual scope s.heap.objs.size f cdv)) →
      DSs (cxOf (L2.CX P w) P w K mg base N qual scope f cdv A outer s H E) (fun cls d _ H => E cls d H) prot body m) :
    FnG P w K mg base (L2.CX P w) (k + 1) f fd ps (spV K ps.length (runFn N.length ps.length prot m)) :=
  FnG.of_def F S (sp_len rfl) fun cdv A outer s H vs Q E ng hr h => ⟨_, hb cdv A outer s H E ng hr, fn_end h⟩

section
variable {X : Cx} {W : WX} {prot : Nat → Bool} {e a b : Expr} {es : List Expr} {st : Stmt} {sts : List Stmt} {pos : Pos}
/-! ### calls -/
def kCall (φ : Phi) (ds : List U) (rs : List Rv) (ς : Env) : Res Rv := match takeArgs rs ς with
  | some (us, ς1) => match φ (us ++ ds) with
    | .ok u us' => .ok (.tm u) (giveBack rs (us'.take rs.length) ς1)
    | .exc x us' => .exc x (giveBack rs (us'.take rs.length) ς1)
    | .stuck => .stuck
  | none => .stuck
def mCall (φ : Phi) (ds : List U) (ms : Env → Res (List Rv)) : Env → Res Rv := mA ms (kCall φ ds)
/-- defaults that are scalars -/
def DvU (dvs : List V) (ds : List U) : Prop := dvs.length = ds.length ∧ ∀ (K : PySem.W.Frag) (B H : Hp), OwAll K B H dvs ds []
theorem dvU_nil : DvU [] [] := ⟨rfl, fun _ _ _ => .nil⟩
theorem dvU_cons {v : V} {x : PyData} {dvs : List V} {ds : List U} (h : scV x = some v) (t : DvU dvs ds) : DvU (v :: dvs) (.d x :: ds) := ⟨by simp [t.1], fun K B H => .cons (F := []) (.d (scV_dp h)) (t.2 K B H)⟩
theorem sp_dvs {K : PySem.W.Frag} {H : Hp} {dvs : List V} {ds : List U} {ps : PL} (h : DvU dvs ds) (s : SP K H ps) : SP K H (dvs.zip ds ++ ps) := by
  obtain ⟨B, F, e, o, n⟩ := s.ex
  refine ⟨B, F, e, ?_, n⟩
  rw [List.map_append, List.map_append, zip_fst h.1, zip_snd h.1]
  exact owAll_app2 (h.2 K B H) o
theorem call_out {K : PySem.W.Frag} {n k : Nat} {φ : Phi} {dvs : List V} {ds : List U} {vs : List V} {H : Hp} {rs : List Rv} {σ : St} {ς : Env} {tp : PL} {Q : VK} (hd : DvU dvs ds) (hn : rs.length + ds.length = n)
    (s : SR K H σ ς (tmps rs vs ++ tp)) (a1 : ats σ rs vs) (o : OutE K W σ tp Q (kCall φ ds rs ς)) : spV K n φ (vs ++ dvs) H Q (fun cls d H => W cls d σ H) := by
  unfold kCall at o
  have hvl := a1.length
  cases ht : takeArgs rs ς with
  | none => rw [ht] at o; exact o.elim
  | some p =>
    obtain ⟨us, ς1⟩ := p
    rw [ht] at o
    obtain ⟨s1, hl⟩ := takeArgs_ok s a1 ht
    have hz : (vs ++ dvs).zip (us ++ ds) = vs.zip us ++ dvs.zip ds := List.zip_append hl.symm
    refine ⟨us ++ ds, sl σ ς1 ++ tp, by rw [List.length_append, hvl, hd.1]; exact hn, by rw [List.length_append, hl, hvl]; exact hn, ?_, ?_⟩
    · rw [hz, List.append_assoc]
      have q : SP K H (vs.zip us ++ (sl σ ς1 ++ tp)) := s1.sp.perm (by
        rw [← List.append_assoc, ← List.append_assoc]
        exact List.perm_append_comm.append_right _)
      refine (sp_dvs hd q).perm ?_
      rw [← List.append_assoc, ← List.append_assoc (vs.zip us)]
      exact List.perm_append_comm.append_right _
    · have o : OutE K W σ tp Q (match φ (us ++ ds) with
        | .ok u us' => .ok (.tm u) (giveBack rs (us'.take rs.length) ς1)
        | .exc x us' => .exc x (giveBack rs (us'.take rs.length) ς1)
        | .stuck => .stuck) := o
      have back : ∀ (us' : List U) (H' : Hp) (tq : PL), us'.length = (vs ++ dvs).length → SP K H' ((vs ++ dvs).zip us' ++ (sl σ ς1 ++ tq)) → SR K H' σ (giveBack rs (us'.take rs.length) ς1) tq := fun us' H' tq hl' q => by
        have hl2 : us'.length = rs.length + dvs.length := by rw [hl', List.length_append, hvl]
        have e1 : us' = us'.take rs.length ++ us'.drop rs.length := (List.take_append_drop ..).symm
        have e2 : (us'.take rs.length).length = rs.length := by rw [List.length_take]; omega
        rw [e1, List.zip_append (by rw [e2, hvl]), List.append_assoc] at q
        have q2 : SP K H' (vs.zip (us'.take rs.length) ++ (sl σ ς1 ++ tq)) := by
          have q3 := q.perm (List.perm_append_comm (l₁ := vs.zip (us'.take rs.length)))
          rw [List.append_assoc] at q3
          have q4 := q3.dropL
          refine q4.perm ?_
          exact List.perm_append_comm
        have s2 : SR K H' σ ς1 (vs.zip (us'.take rs.length) ++ tq) := s1.sub (q2.perm (by
          rw [← List.append_assoc, ← List.append_assoc]
          exact List.perm_append_comm.append_right _))
        exact giveBack_ok e2 s2 a1
      cases hφ : φ (us ++ ds) with
      | stuck => rw [hφ] at o; exact o
      | ok u us' =>
        rw [hφ] at o
        refine fun hl' v H' q => o v H' ?_ trivial
        exact back us' H' ((v, u) :: tp) hl' (q.perm (by
          have e : ((v, u) :: ((vs ++ dvs).zip us' ++ (sl σ ς1 ++ tp))).Perm ((vs ++ dvs).zip us' ++ ((v, u) :: (sl σ ς1 ++ tp))) := front.symm
          exact e.trans (front.symm.append_left _)))
      | exc x us' =>
        rw [hφ] at o
        refine fun hl' cls d H' ps q ex => o cls d H' ps ?_ ex
        refine back us' H' (ps ++ tp) hl' (q.perm ?_)
        exact swapL.trans (List.Perm.append_left _ swapL)
section
variable {k n : Nat} {f : Addr} {fd : FuncData} {ps : List Str} {φ : Phi} {dvs : List V} {dsV : List Value} {ds : List U} {x : Str} {p : Pos} {ms : Env → Res (List Rv)}
def Tk (X : Cx) (W : WX) : Prop := ∀ σ, PassesAt (L2.CX X.prog X.w) X σ (fun cls d H => W cls d σ H)
theorem tk_of (t : Takes X W) : Tk X W := fun σ => passAt t σ
theorem tk0 : Tk X (fun _ _ _ _ => False) := tk_of takes0
theorem de_call (F : FnG X.prog X.w X.K X.mg X.base (L2.CX X.prog X.w) k f fd ps (spV X.K n φ)) (ng : NoG X.A) (hr : Room k X.A) (hg : Gl X x) (hm : X.mg x = some (.ref f)) (hk : PySem.W.keepIn X.K (.ref f) = true) (hb : Binds X.K fd ps dsV) (hd : Vals dvs dsV) (hu : DvU dvs ds) (tk : Tk X W)
    (ha : DA X W (e :: es) ms) {j : Nat} (hn : ∀ ς rs ς', ms ς = .ok rs ς' → rs.length = j) (hj : j + ds.length = n) (hdb : (x == ("__debug__" : Str)) = false := by decide) (he : starEach (e :: es) X.env = (false, eval e X.env) :: starEach es X.env := by rfl) (hpl : (backTo pos (starEach es X.env)).any (·.1) = false := by rfl) :
    DE X W (.Call (.Name x p) (e :: es) [] pos) (mCall φ ds ms) :=
  pe_weak (pe_callG (E := fun σ cls d H => W cls d σ H) F ng hr hg hm hk hb hd tk ha hdb he hpl) fun σ H Q ⟨ς, tp, s, o⟩ => by
    refine ⟨ς, tp, s, ?_⟩
    unfold mCall mA at o
    cases h1 : ms ς with
    | stuck => rw [h1] at o; exact o
    | exc x ς1 => rw [h1] at o; exact o
    | ok rs ς1 =>
      rw [h1] at o
      exact fun vs H1 s1 a1 => call_out (k := k) hu (by rw [hn ς rs ς1 h1]; exact hj) s1 a1 o
theorem mNil_len : ∀ ς rs ς', mNil ς = .ok rs ς' → rs.length = 0 := fun ς rs ς' h => by
  have e : [] = rs ∧ ς = ς' := by simpa [mNil] using h
  rw [← e.1]; rfl
theorem mCons_len {m : Env → Res Rv} {j : Nat} (h : ∀ ς rs ς', ms ς = .ok rs ς' → rs.length = j) : ∀ ς rs ς', mCons m ms ς = .ok rs ς' → rs.length = j + 1 := fun ς rs ς' q => by
  unfold mCons at q
  cases h1 : m ς with
  | stuck => rw [h1] at q; cases q
  | exc x ς1 => rw [h1] at q; cases q
  | ok r ς1 =>
    rw [h1] at q
    have q : ((ms ς1).bind fun rs ς2 => Res.ok (r :: rs) ς2) = .ok rs ς' := q
    cases h2 : ms ς1 with
    | stuck => rw [h2] at q; cases q
    | exc x ς2 => rw [h2] at q; cases q
    | ok rs2 ς2 =>
      rw [h2] at q
      have e : r :: rs2 = rs := by
        have q' : Res.ok (r :: rs2) ς2 = Res.ok rs ς' := q
        injection q'
      rw [← e, List.length_cons, h _ _ _ h2]
end
end
end Vm
end
section
set_option Elab.async false
set_option linter.all false
set_option maxRecDepth 100000
namespace Vm
open PySem L2

/-! ### what is walked: items told ahead -/
structure Src (K : PySem.W.Frag) (J : It) (us : List U) (kp : PL) : Prop where
  ex : ∃ (G : Hp → Prop) (Y : Nat → Hp → V → Hp → Prop), Walk J us.length G Y ∧ (∀ H ps, SP K H (kp ++ ps) → G H) ∧
    ∀ i H x H' ps, i < us.length → Y i H x H' → SP K H (kp ++ ps) → ∃ u, us[i]? = some u ∧ SP K H' ((x, u) :: (kp ++ ps))
def OutI (K : PySem.W.Frag) (W : WX) (σ : St) (tp : PL) (R : It → Hp → Prop) : Res (List U) → Prop
  | .ok us ς => ∀ J H kp, SR K H σ ς (kp ++ tp) → Src K J us kp → R J H
  | .exc x ς => ∀ cls d H ps, SR K H σ ς (ps ++ tp) → ExR K H x cls d ps → W cls d σ H
  | .stuck => False
def LI (K : PySem.W.Frag) (W : WX) (m : Env → Res (List U)) : TI := fun σ H R => ∃ ς tp, SR K H σ ς tp ∧ OutI K W σ tp R (m ς)
def DI (X : Cx) (W : WX) (tg e : Expr) (m : Env → Res (List U)) : Prop := PI X tg e (LI X.K W m)
section
variable {X : Cx} {W : WX} {prot : Nat → Bool} {e a b tg : Expr} {es : List Expr} {st : Stmt} {sts : List Stmt} {pos : Pos}
theorem pi_weak {w w' : TI} (h : PI X tg e w) (g : ∀ σ H R, w' σ H R → w σ H R) : PI X tg e w' := ⟨fun pins s σ H R I q => h.run pins s σ H R I (g _ _ _ q)⟩
theorem pi_or {w w' : TI} (h : PI X tg e w) (h' : PI X tg e w') : PI X tg e (fun σ H R => w σ H R ∨ w' σ H R) := ⟨fun pins s σ H R I q => q.elim (h.run pins s σ H R I) (h'.run pins s σ H R I)⟩

def itemsOf : PyData → Option (List PyData)
  | .list xs => some xs
  | .tuple xs => some xs
  | _ => none
/-- a list or a tuple, shared from now on -/
def kSrc (r : Rv) (ς : Env) : Res (List U) := match r.shareD ς with
  | some (x, ς1) => match itemsOf x with
    | some xs => .ok (xs.map .d) ς1
    | none => .stuck
  | none => .stuck
def mSrc (m : Env → Res Rv) : Env → Res (List U) := m1 m kSrc
theorem zip_get {vs : List V} {us : List U} {i : Nat} {v : V} {u : U} : vs[i]? = some v → us[i]? = some u → ∃ as bs, vs.zip us = as ++ (v, u) :: bs := fun h1 h2 => by
  have h : (vs.zip us)[i]? = some (v, u) := by
    rw [List.getElem?_zip_eq_some]; exact ⟨h1, h2⟩
  have hm := List.mem_of_getElem? h
  exact List.append_of_mem hm
theorem src_list {K : PySem.W.Frag} {a : Addr} {xs : List PyData} : Src K (Itl K a) (xs.map .d) [(V.ref a, .d (.list xs))] := by
  refine ⟨fun H => ∃ vs, SqL K H a vs ∧ vs.length = (xs.map U.d).length, fun i H x H' => H' = H ∧ ∀ ys, SqL K H a ys → ys[i]? = some x, ⟨fun i H hi ⟨vs, q, hl⟩ => ⟨vs, vs[i]'(by omega), q, by simp [show i < vs.length by omega]⟩, fun H ⟨vs, q, hl⟩ => ⟨vs, q, Nat.le_of_eq hl⟩, fun i H x H' hi _ y => y⟩, fun H ps s => ?_, fun i H x H' ps hi y s => ?_⟩
  · obtain ⟨a', vs, e, sq, hl, _⟩ := SP.itemsL s
    cases e
    exact ⟨vs, sq, by simpa using hl⟩
  · obtain ⟨rfl, hx⟩ := y
    obtain ⟨a', vs, e, sq, hl, s2⟩ := SP.itemsL s
    cases e
    have h1 := hx vs sq
    obtain ⟨u, hu⟩ : ∃ u, (xs.map U.d)[i]? = some u := ⟨_, List.getElem?_eq_getElem hi⟩
    obtain ⟨as, bs, ez⟩ := zip_get h1 hu
    refine ⟨u, hu, ?_⟩
    rw [ez, List.append_assoc] at s2
    have s3 := (s2.perm List.perm_middle)
    have s4 : SP K H' ((x, u) :: (as ++ bs ++ ((V.ref a, U.d (.list xs)) :: ps))) := by rw [List.append_assoc]; exact s3
    have s5 : SP K H' ((as ++ bs) ++ ((x, u) :: ((V.ref a, U.d (.list xs)) :: ps))) := s4.perm front.symm
    exact s5.dropL
theorem src_tup {K : PySem.W.Frag} {a : Addr} {xs : List PyData} : Src K (Itt K a) (xs.map .d) [(V.ref a, .d (.tuple xs))] := by
  refine ⟨fun H => ∃ vs, SqT K H a vs ∧ vs.length = (xs.map U.d).length, fun i H x H' => H' = H ∧ ∀ ys, SqT K H a ys → ys[i]? = some x, ⟨fun i H hi ⟨vs, q, hl⟩ => ⟨vs, vs[i]'(by omega), q, by simp [show i < vs.length by omega]⟩, fun H ⟨vs, q, hl⟩ => ⟨vs, q, Nat.le_of_eq hl⟩, fun i H x H' hi _ y => y⟩, fun H ps s => ?_, fun i H x H' ps hi y s => ?_⟩
  · obtain ⟨a', vs, e, sq, hl, _⟩ := SP.itemsT s
    cases e
    exact ⟨vs, sq, by simpa using hl⟩
  · obtain ⟨rfl, hx⟩ := y
    obtain ⟨a', vs, e, sq, hl, s2⟩ := SP.itemsT s
    cases e
    have h1 := hx vs sq
    obtain ⟨u, hu⟩ : ∃ u, (xs.map U.d)[i]? = some u := ⟨_, List.getElem?_eq_getElem hi⟩
    obtain ⟨as, bs, ez⟩ := zip_get h1 hu
    refine ⟨u, hu, ?_⟩
    rw [ez, List.append_assoc] at s2
    have s3 := (s2.perm List.perm_middle)
    have s4 : SP K H' ((x, u) :: (as ++ bs ++ ((V.ref a, U.d (.tuple xs)) :: ps))) := by rw [List.append_assoc]; exact s3
    have s5 : SP K H' ((as ++ bs) ++ ((x, u) :: ((V.ref a, U.d (.tuple xs)) :: ps))) := s4.perm front.symm
    exact s5.dropL
theorem li_1 {K : PySem.W.Frag} {ma : Env → Res Rv} {k : Rv → Env → Res (List U)} {σ : St} {H : Hp} {R : It → Hp → Prop} {T : V → Hp → Prop}
    (h : LI K W (m1 ma k) σ H R) (hk : ∀ x H ra ς tp, SR K H σ ς (ra.tmp x ++ tp) → ra.at σ x → OutI K W σ tp R (k ra ς) → T x H) : LE K W ma σ H T := by
  obtain ⟨ς, tp, s, o⟩ := h
  refine ⟨ς, tp, s, ?_⟩
  unfold m1 at o
  cases h1 : ma ς with
  | stuck => rw [h1] at o; exact o
  | exc x ς1 => rw [h1] at o; exact o
  | ok ra ς1 => rw [h1] at o; exact fun x H1 s1 a1 => hk x H1 ra ς1 tp s1 a1 o
theorem di_seq {m : Env → Res Rv} (he : DE X W e m) : DI X W tg e (mSrc m) := by
  refine pi_weak (pi_or (pi_list he) (pi_tup he)) fun σ H R ⟨ς, tp, s, o⟩ => ?_
  unfold mSrc m1 at o
  cases h1 : m ς with
  | stuck => rw [h1] at o; exact o.elim
  | exc x ς1 => rw [h1] at o; exact .inl ⟨ς, tp, s, by rw [h1]; exact o⟩
  | ok r ς1 =>
    rw [h1] at o
    have o : OutI X.K W σ tp R (kSrc r ς1) := o
    unfold kSrc at o
    cases h2 : r.shareD ς1 with
    | none => rw [h2] at o; exact o.elim
    | some p =>
      obtain ⟨x, ς2⟩ := p
      rw [h2] at o
      cases x with
      | list xs =>
        refine .inl ⟨ς, tp, s, ?_⟩
        rw [h1]
        intro v H1 s1 a1
        have s2 := shareD_ok s1 a1 h2
        obtain ⟨a, vs, rfl, sq, hl, _⟩ := SP.itemsL s2.ahead
        exact ⟨a, rfl, ⟨vs, sq⟩, o _ H1 [(V.ref a, .d (.list xs))] s2 src_list⟩
      | tuple xs =>
        refine .inr ⟨ς, tp, s, ?_⟩
        rw [h1]
        intro v H1 s1 a1
        have s2 := shareD_ok s1 a1 h2
        obtain ⟨a, vs, rfl, sq, hl, _⟩ := SP.itemsT s2.ahead
        exact ⟨a, rfl, ⟨vs, sq⟩, o _ H1 [(V.ref a, .d (.tuple xs))] s2 src_tup⟩
      | _ => exact o.elim
/-- range(n), range(a, b) -/
def rngU (lo : Int) (n : Nat) : List U := (List.range n).map fun i => .d (.int (lo + (i : Nat)))
theorem src_range {K : PySem.W.Frag} {lo : Int} {n : Nat} : Src K (Itr lo n) (rngU lo n) [] := by
  have hl : (rngU lo n).length = n := by simp [rngU]
  refine ⟨fun _ => True, YFn fun i => .int (lo + i), by rw [hl]; exact walk_range, fun _ _ _ => trivial, fun i H x H' ps hi y s => ?_⟩
  obtain ⟨rfl, rfl⟩ := y
  exact ⟨.d (.int (lo + i)), by rw [hl] at hi; simp [rngU, hi], s.put0 fun B _ => .d (.int _)⟩
def big62 (i : Int) : Bool := decide (-(2 ^ 62) ≤ i) && decide (i < 2 ^ 62)
theorem big62_ok {i : Int} (h : big62 i = true) : -(2 ^ 62) ≤ i ∧ i < 2 ^ 62 := by
  unfold big62 at h
  rw [Bool.and_eq_true] at h
  exact ⟨of_decide_eq_true h.1, of_decide_eq_true h.2⟩
def kRng1 (rs : List Rv) (ς : Env) : Res (List U) := match peeks ς rs with
  | some [.int j] => if big62 j then .ok (rngU 0 j.toNat) ς else .stuck
  | _ => .stuck
def kRng2 (rs : List Rv) (ς : Env) : Res (List U) := match peeks ς rs with
  | some [.int i, .int j] => if big62 i && big62 j then .ok (rngU i (j - i).toNat) ς else .stuck
  | _ => .stuck
def mRng1 (ms : Env → Res (List Rv)) : Env → Res (List U) := mA ms kRng1
def mRng2 (ms : Env → Res (List Rv)) : Env → Res (List U) := mA ms kRng2
theorem li_a {K : PySem.W.Frag} {ms : Env → Res (List Rv)} {k : List Rv → Env → Res (List U)} {σ : St} {H : Hp} {R : It → Hp → Prop} {T : List V → Hp → Prop}
    (h : LI K W (mA ms k) σ H R) (hk : ∀ vs H rs ς tp, SR K H σ ς (tmps rs vs ++ tp) → ats σ rs vs → OutI K W σ tp R (k rs ς) → T vs H) : LA K W ms σ H T := by
  obtain ⟨ς, tp, s, o⟩ := h
  refine ⟨ς, tp, s, ?_⟩
  unfold mA at o
  cases h1 : ms ς with
  | stuck => rw [h1] at o; exact o
  | exc x ς1 => rw [h1] at o; exact o
  | ok rs ς1 => rw [h1] at o; exact fun vs H1 s1 a1 => hk vs H1 rs ς1 tp s1 a1 o
theorem dpAll1 {K : PySem.W.Frag} {H : Hp} {vs : List V} {x : PyData} (h : DpAll K H vs [x]) : ∃ v, vs = [v] ∧ Dp K H v x := by
  cases h with | cons a b => cases b; exact ⟨_, rfl, a⟩
theorem dpAll2 {K : PySem.W.Frag} {H : Hp} {vs : List V} {x y : PyData} (h : DpAll K H vs [x, y]) : ∃ v w, vs = [v, w] ∧ Dp K H v x ∧ Dp K H w y := by
  cases h with | cons a b => cases b with | cons c d => cases d; exact ⟨_, _, rfl, a, c⟩
theorem dpAll3 {K : PySem.W.Frag} {H : Hp} {vs : List V} {x y z : PyData} (h : DpAll K H vs [x, y, z]) : ∃ v w u, vs = [v, w, u] ∧ Dp K H v x ∧ Dp K H w y ∧ Dp K H u z := by
  cases h with | cons a b => cases b with | cons c d => cases d with | cons e f => cases f; exact ⟨_, _, _, rfl, a, c, e⟩
theorem dp_int {K : PySem.W.Frag} {H : Hp} {v : V} {i : Int} (h : Dp K H v (.int i)) : v = .int i := by cases h; rfl
theorem dp_str {K : PySem.W.Frag} {H : Hp} {v : V} {i : Str} (h : Dp K H v (.str i)) : v = .str i := by cases h; rfl
theorem dp_bl {K : PySem.W.Frag} {H : Hp} {v : V} {i : Bool} (h : Dp K H v (.bool i)) : v = .bl i := by cases h; rfl
theorem dp_non {K : PySem.W.Frag} {H : Hp} {v : V} (h : Dp K H v .none) : v = .non := by cases h; rfl
theorem dp_lst {K : PySem.W.Frag} {H : Hp} {v : V} {xs : List PyData} (h : Dp K H v (.list xs)) : ∃ a vs, v = .ref a ∧ SqL K H a vs ∧ DpAll K H vs xs := by cases h with | lst a b => exact ⟨_, _, rfl, a, b⟩
theorem dp_tup {K : PySem.W.Frag} {H : Hp} {v : V} {xs : List PyData} (h : Dp K H v (.tuple xs)) : ∃ a vs, v = .ref a ∧ SqT K H a vs ∧ DpAll K H vs xs := by cases h with | tup a b => exact ⟨_, _, rfl, a, b⟩
theorem di_range1 {p pos : Pos} {ms : Env → Res (List Rv)} (hg : Gl X "range") (hm : X.mg "range" = none) (ha : DA X W [a] ms) (hs : starEach [a] X.env = [(false, eval a X.env)] := by rfl) : DI X W tg (.Call (.Name "range" p) [a] [] pos) (mRng1 ms) :=
  pi_weak (pi_range1 hg hm ha hs) fun σ H R h => li_a h fun vs H rs ς tp s a o => by
    unfold kRng1 at o
    split at o
    · rename_i j hj
      obtain ⟨v, rfl, hd⟩ := dpAll1 (peeks_ok s a hj)
      have e := dp_int hd
      subst e
      split at o
      · rename_i hb
        obtain ⟨h1, h2⟩ := big62_ok hb
        exact ⟨j, rfl, h1, h2, o _ H [] s.dropL src_range⟩
      · exact o.elim
    · exact o.elim
theorem di_range2 {p pos : Pos} {ms : Env → Res (List Rv)} (hg : Gl X "range") (hm : X.mg "range" = none) (ha : DA X W [a, b] ms) (hs : starEach [a, b] X.env = [(false, eval a X.env), (false, eval b X.env)] := by rfl) (hs2 : starEach [b] X.env = [(false, eval b X.env)] := by rfl) :
    DI X W tg (.Call (.Name "range" p) [a, b] [] pos) (mRng2 ms) :=
  pi_weak (pi_range2 hg hm ha hs hs2) fun σ H R h => li_a h fun vs H rs ς tp s a o => by
    unfold kRng2 at o
    split at o
    · rename_i i j hj
      obtain ⟨v, w, rfl, hd, he⟩ := dpAll2 (peeks_ok s a hj)
      have e1 := dp_int hd
      have e2 := dp_int he
      subst e1; subst e2
      split at o
      · rename_i hb
        rw [Bool.and_eq_true] at hb
        obtain ⟨h1, h2⟩ := big62_ok hb.1
        obtain ⟨h3, h4⟩ := big62_ok hb.2
        exact ⟨i, j, rfl, ⟨h1, h2, h3, h4⟩, o _ H [] s.dropL src_range⟩
      · exact o.elim
    · exact o.elim

/-! ### for -/
def loopF (g : U → Env → Option Env) (body : Env → Res Fl) : List U → Env → Res Fl
  | [], ς => .ok .next ς
  | u :: us, ς => match g u ς with
    | none => .stuck
    | some ς1 => match body ς1 with
      | .ok .next ς2 => loopF g body us ς2
      | .ok .cont ς2 => loopF g body us ς2
      | .ok .brk ς2 => .ok .next ς2
      | r => r
def mFor (src : Env → Res (List U)) (g : U → Env → Option Env) (body : Env → Res Fl) : Env → Res Fl := fun ς => (src ς).bind fun us ς1 => loopF g body us ς1
theorem ds_for {iter : Expr} {body : List Stmt} {src : Env → Res (List U)} {g : U → Env → Option Env} {mb : Env → Res Fl} (hp : PassesOwn (model X.prog X.w) X.A X.env X.xe) (hc : X.calm = true) (hi : DI X W tg iter src) (hg : DG X prot tg g) (hb : DSs X W prot body mb)
    (hs : ∀ x, foldedSetIterable iter X.env x = pure x := by intro _; rfl) : DS X W prot (.For tg iter body [] pos) (mFor src g mb) := by
  refine ps_weak (ps_for hp hc hi hg hb hs) fun D σ H ⟨ς, tp, s, o⟩ => ⟨ς, tp, s, ?_⟩
  unfold mFor at o
  cases h1 : src ς with
  | stuck => rw [h1] at o; exact o
  | exc x ς1 => rw [h1] at o; exact fun cls d H ps sx ex => o σ cls d H ps sx ex (Pr.refl σ)
  | ok us ς1 =>
    rw [h1] at o
    have o : OutS X.K W prot σ tp D (loopF g mb us ς1) := o
    intro J H1 kp s1 sc
    obtain ⟨G, Y, wk, gk, yk⟩ := sc.ex
    have swap : ∀ {H' σ' ς'}, SR X.K H' σ' ς' (kp ++ tp) → SP X.K H' (kp ++ (sl σ' ς' ++ tp)) := fun s => s.sp.perm swapL
    refine for_it wk (fun i σ' H' => ∃ ς', SR X.K H' σ' ς' (kp ++ tp) ∧ Pr prot σ σ' ∧ OutS X.K W prot σ' tp D (loopF g mb (us.drop i) ς')) ⟨ς1, s1, Pr.refl σ, by simpa using o⟩ (fun i σ' H' _ ⟨ς', s', _, _⟩ => gk _ _ (swap s')) ?_ ?_
    · rintro i x σ' H' H2 hi ⟨ς', s', p, o'⟩ y
      obtain ⟨u, hu, sp2⟩ := yk i H' x H2 _ hi y (swap s')
      have hd : us.drop i = u :: us.drop (i + 1) := by
        have hl := (List.getElem?_eq_some_iff.mp hu)
        rw [List.drop_eq_getElem_cons hl.1, hl.2]
      rw [hd] at o'
      unfold loopF at o'
      refine ⟨u, ς', kp ++ tp, s'.sub (sp2.perm ?_), ?_⟩
      · have e : ((x, u) :: (kp ++ (sl σ' ς' ++ tp))).Perm ((x, u) :: (sl σ' ς' ++ (kp ++ tp))) := swapL.cons _
        exact e.trans front.symm
      · cases hg' : g u ς' with
        | none => rw [hg'] at o'; exact o'
        | some ς2 =>
          rw [hg'] at o'
          intro σ2 H3 s3 p3
          refine ⟨ς2, kp ++ tp, s3, ?_⟩
          have dropK : ∀ {H' σ' ς' tq}, SR X.K H' σ' ς' (kp ++ tq) → SR X.K H' σ' ς' tq := fun s => s.dropL
          cases hm : mb ς2 with
          | stuck => simp only [hm] at o'; exact o'
          | exc e ς3 =>
            simp only [hm] at o'
            exact fun σ4 cls d H4 ps s4 ex p4 => o' σ4 cls d H4 ps (dropK (s4.perm swapL)) ex (p3.trans p4)
          | ok f ς3 =>
            cases f with
            | next => simp only [hm] at o'; exact fun σ4 H4 s4 p4 => ⟨ς3, s4, (p.trans p3).trans p4, OutS.pr (p3.trans p4) o'⟩
            | cont => simp only [hm] at o'; exact fun σ4 H4 s4 p4 => ⟨ς3, s4, (p.trans p3).trans p4, OutS.pr (p3.trans p4) o'⟩
            | brk => simp only [hm] at o'; exact fun σ4 H4 s4 p4 => o' σ4 H4 (dropK s4) (p3.trans p4)
            | ret w =>
              simp only [hm] at o'
              exact fun σ4 v H4 s4 p4 => o' σ4 v H4 (dropK (s4.perm front.symm)) (p3.trans p4)
    · rintro σ' H' ⟨ς', s', p, o'⟩
      rw [List.drop_length] at o'
      exact o' σ' H' s'.dropL (Pr.refl σ')

/-! ### while -/
def runW (t : Env → Res Bool) (body : Env → Res Fl) : Nat → Env → Option (Res Fl)
  | 0, _ => none
  | n + 1, ς => match t ς with
    | .ok true ς1 => match body ς1 with
      | .ok .next ς2 => runW t body n ς2
      | .ok .cont ς2 => runW t body n ς2
      | .ok .brk ς2 => some (.ok .next ς2)
      | r => some r
    | .ok false ς1 => some (.ok .next ς1)
    | .exc x ς1 => some (.exc x ς1)
    | .stuck => some .stuck
open Classical in
noncomputable def mWhile (t : Env → Res Bool) (body : Env → Res Fl) : Env → Res Fl := fun ς => if h : ∃ n r, runW t body n ς = some r then Classical.choose (Classical.choose_spec h) else .stuck
theorem runW_mono {t : Env → Res Bool} {body : Env → Res Fl} : ∀ {n k : Nat} {ς : Env} {r : Res Fl}, runW t body n ς = some r → n ≤ k → runW t body k ς = some r
  | 0, _, _, _, h, _ => by cases h
  | n + 1, 0, _, _, _, hk => by omega
  | n + 1, k + 1, ς, r, h, hk => by
    unfold runW at h ⊢
    cases ht : t ς with
    | stuck => rw [ht] at h; exact h
    | exc x ς1 => rw [ht] at h; exact h
    | ok b ς1 =>
      rw [ht] at h
      cases b with
      | false => exact h
      | true =>
        simp only at h ⊢
        cases hb : body ς1 with
        | stuck => rw [hb] at h; exact h
        | exc x ς2 => rw [hb] at h; exact h
        | ok f ς2 =>
          rw [hb] at h
          cases f with
          | next => exact runW_mono (n := n) h (by omega)
          | cont => exact runW_mono (n := n) h (by omega)
          | brk => exact h
          | ret u => exact h
theorem mWhile_eq {t : Env → Res Bool} {body : Env → Res Fl} {n : Nat} {ς : Env} {r : Res Fl} (h : runW t body n ς = some r) : mWhile t body ς = r := by
  have hx : ∃ n r, runW t body n ς = some r := ⟨n, r, h⟩
  unfold mWhile
  rw [dif_pos hx]
  have h2 := Classical.choose_spec (Classical.choose_spec hx)
  have a := runW_mono h (Nat.le_max_left n (Classical.choose hx))
  have b := runW_mono h2 (Nat.le_max_right n (Classical.choose hx))
  rw [a] at b
  exact (Option.some.inj b).symm
theorem mWhile_none {t : Env → Res Bool} {body : Env → Res Fl} {ς : Env} (h : ¬ ∃ n r, runW t body n ς = some r) : mWhile t body ς = .stuck := by
  unfold mWhile
  rw [dif_neg h]
theorem ds_while {c : Expr} {body : List Stmt} {t : Env → Res Bool} {mb : Env → Res Fl} (hp : PassesOwn (model X.prog X.w) X.A X.env X.xe) (hc : DT X W c t) (hb : DSs X W prot body mb) : DS X W prot (.While c body [] pos) (mWhile t mb) := by
  refine ps_weak (ps_while hp hc hb) fun D σ H ⟨ς, tp, s, o⟩ => ?_
  by_cases hx : ∃ n r, runW t mb n ς = some r
  · obtain ⟨n, r, hr⟩ := hx
    rw [mWhile_eq hr] at o
    refine ⟨fun k σ' H' => ∃ ς' r', SR X.K H' σ' ς' tp ∧ Pr prot σ σ' ∧ runW t mb k ς' = some r' ∧ OutS X.K W prot σ' tp D r', ⟨n, ς, r, s, Pr.refl σ, hr, o⟩, ?_⟩
    rintro k σ' H' ⟨ς', r', s', p, hr', o'⟩
    refine ⟨ς', tp, s', ?_⟩
    cases k with
    | zero => cases hr'
    | succ k =>
      unfold runW at hr'
      cases ht : t ς' with
      | stuck => rw [ht] at hr'; cases hr'; exact o'
      | exc x ς1 => rw [ht] at hr'; cases hr'; exact fun cls d H ps sx ex => o' σ' cls d H ps sx ex (Pr.refl σ')
      | ok b ς1 =>
        rw [ht] at hr'
        intro H1 s1
        cases b with
        | false => cases hr'; exact iteF (o' σ' H1 s1 (Pr.refl σ'))
        | true =>
          simp only at hr'
          refine iteT ⟨fun σ2 H2 => ∃ ς2, SR X.K H2 σ2 ς2 tp ∧ Pr prot σ' σ2 ∧ runW t mb k ς2 = some r', fun σ2 H2 ⟨ς2, s2, p2, h2⟩ => ⟨k, Nat.lt_succ_self k, ς2, r', s2, p.trans p2, h2, OutS.pr p2 o'⟩, ς1, tp, s1, ?_⟩
          cases hb2 : mb ς1 with
          | stuck => rw [hb2] at hr'; cases hr'; exact o'
          | exc x ς2 => rw [hb2] at hr'; cases hr'; exact o'
          | ok f ς2 =>
            rw [hb2] at hr'
            cases f with
            | next => exact fun σ2 H2 s2 p2 => ⟨ς2, s2, p2, hr'⟩
            | cont => exact fun σ2 H2 s2 p2 => ⟨ς2, s2, p2, hr'⟩
            | brk => cases hr'; exact o'
            | ret u => cases hr'; exact o'
  · rw [mWhile_none hx] at o; exact o.elim
end
end Vm
end
section
set_option Elab.async false
set_option linter.all false
set_option maxRecDepth 100000
namespace Vm
open PySem L2

def wipeE (ς : Env) : List Nat → Env
  | [] => ς
  | v :: vs => (wipeE ς vs).set v none
def restE (ς : Env) : List Nat → Env → Env
  | [], ς' => ς'
  | v :: vs, ς' => restE ς vs (match (wipeE ς vs)[v]? with
    | some (some u) => ς'.set v (some u)
    | _ => ς')
abbrev W0 : WX := fun _ _ _ _ => False
abbrev protC (vs : List Nat) : Nat → Bool := fun i => !(vs.contains i)
section
variable {K : PySem.W.Frag} {H H' : Hp} {σ σ' : St} {ς ς' : Env} {tp tq : PL}
theorem wipe_set (σ : St) : ∀ vs : List Nat, wipe σ vs = vs.foldr (fun v s => s.set v none) σ
  | [] => rfl
  | v :: vs => by show (wipe σ vs).set v none = _; rw [wipe_set σ vs]; rfl
theorem wipe_get (σ : St) : ∀ (vs : List Nat) (i : Nat), (wipe σ vs)[i]? = if i ∈ vs then (σ[i]?).map fun _ => none else σ[i]?
  | [], i => by simp [wipe]
  | v :: vs, i => by
    have ih := wipe_get σ vs i
    show ((wipe σ vs).set v none)[i]? = _
    rw [List.getElem?_set]
    by_cases e : v = i
    · subst e
      rw [if_pos rfl, if_pos (List.mem_cons_self ..)]
      have hl : (wipe σ vs).length = σ.length := L2.wipe_length σ vs
      by_cases hv : v < σ.length
      · rw [if_pos (by omega)]; simp [hv]
      · rw [if_neg (by omega)]; simp [hv]
    · rw [if_neg e, ih]
      by_cases hm : i ∈ vs
      · rw [if_pos hm, if_pos (List.mem_cons_of_mem _ hm)]
      · rw [if_neg hm, if_neg (by simp [hm]; exact fun q => e q.symm)]
theorem wipe_eq {vs : List Nat} (hl : σ'.length = σ.length) (h : ∀ i, i ∉ vs → σ'[i]? = σ[i]?) : wipe σ' vs = wipe σ vs := by
  apply List.ext_getElem?; intro i
  rw [wipe_get, wipe_get]
  by_cases hm : i ∈ vs
  · rw [if_pos hm, if_pos hm]
    by_cases hi : i < σ.length
    · have hi' : i < σ'.length := by omega
      simp [hi, hi']
    · have hi' : ¬ i < σ'.length := by omega
      simp [hi, hi']
  · rw [if_neg hm, if_neg hm, h i hm]
theorem wipe_wipe {vs : List Nat} : wipe (wipe σ vs) vs = wipe σ vs := wipe_eq (L2.wipe_length σ vs) fun i hi => by rw [wipe_get, if_neg hi]
theorem SR.wipe1 (s : SR K H σ ς tp) (v : Nat) : SR K H (σ.set v none) (ς.set v none) tp := by
  obtain ⟨qs, hq⟩ := sl_drop v σ ς
  have e : ∀ (v : Nat) (σ : St) (ς : Env), sl (σ.set v none) (ς.set v none) = sl σ (ς.set v none) := by
    intro v
    induction v with
    | zero =>
      intro σ ς
      cases σ with
      | nil => rfl
      | cons o σ => cases ς with
        | nil => cases o <;> rfl
        | cons p ς => simp [sl_cons_none]
    | succ v ih =>
      intro σ ς
      cases σ with
      | nil => rfl
      | cons o σ => cases ς with
        | nil => cases o <;> rfl
        | cons p ς =>
          simp only [List.set_cons_succ]
          cases o with
          | none => rw [sl_none_cons, sl_none_cons, ih]
          | some o => cases p with
            | none => rw [sl_cons_none, sl_cons_none, ih]
            | some p => simp only [sl, ih]
  refine ⟨?_, fun i u h => ?_, by rw [List.length_set, List.length_set]; exact s.len⟩
  · rw [e]
    have q := s.sp.perm (hq.append_right tp)
    rw [List.append_assoc] at q
    exact q.dropL
  · obtain ⟨w, hw⟩ := cov_set_none s.cov i u h
    by_cases ev : v = i
    · subst ev
      by_cases hl : v < ς.length
      · rw [List.getElem?_set_self hl] at h; cases h
      · rw [List.getElem?_eq_none (by simpa using hl)] at h; cases h
    · exact ⟨w, by rw [List.getElem?_set_ne ev]; exact hw⟩
theorem SR.wipes (s : SR K H σ ς tp) : ∀ vs : List Nat, SR K H (wipe σ vs) (wipeE ς vs) tp
  | [] => s
  | v :: vs => (SR.wipes s vs).wipe1 v
theorem wipeE_at (ς : Env) : ∀ (vs : List Nat) (v : Nat), v ∈ vs → ∀ u, (wipeE ς vs)[v]? ≠ some (some u)
  | w :: vs, v, h, u => by
    show ((wipeE ς vs).set w none)[v]? ≠ _
    rw [List.getElem?_set]
    by_cases e : w = v
    · rw [if_pos e]; split <;> simp
    · rw [if_neg e]
      rcases List.mem_cons.mp h with q | q
      · exact absurd q.symm e
      · exact wipeE_at ς vs v q u
/-- the slots' own values put aside, and back -/
theorem SR.aside (s : SR K H σ ς tp) : ∀ vs : List Nat, ∃ sv, SR K H (wipe σ vs) (wipeE ς vs) (sv ++ tp) ∧
    ∀ (H' : Hp) (ς' : Env) (tq : PL), SR K H' (wipe σ vs) ς' (sv ++ tq) → (∀ v ∈ vs, ∀ u, ς'[v]? ≠ some (some u)) → SR K H' σ (restE ς vs ς') tq
  | [] => ⟨[], s, fun _ _ _ q _ => q⟩
  | v :: vs => by
    obtain ⟨sv, s1, back⟩ := SR.aside s vs
    cases hc : (wipeE ς vs)[v]? with
    | none =>
      have hl : ¬ v < (wipeE ς vs).length := fun h => by rw [List.getElem?_eq_getElem h] at hc; cases hc
      have e1 : (wipeE ς vs).set v none = wipeE ς vs := List.set_eq_of_length_le (by omega)
      have e2 : (wipe σ vs).set v none = wipe σ vs := List.set_eq_of_length_le (by have := s1.len; omega)
      refine ⟨sv, s1.wipe1 v, fun H' ς' tq q h => ?_⟩
      have q' : SR K H' (wipe σ vs) ς' (sv ++ tq) := by rw [← e2]; exact q
      unfold restE
      rw [hc]
      exact back H' ς' tq q' fun w hw => h w (List.mem_cons_of_mem _ hw)
    | some o =>
      cases o with
      | none =>
        refine ⟨sv, s1.wipe1 v, fun H' ς' tq q h => ?_⟩
        unfold restE
        rw [hc]
        refine back H' ς' tq ⟨?_, fun i u hu => ?_, ?_⟩ fun w hw => h w (List.mem_cons_of_mem _ hw)
        · have e : sl ((wipe σ vs).set v none) ς' = sl (wipe σ vs) ς' := by
            have hv := h v (List.mem_cons_self ..)
            have aux : ∀ (v : Nat) (σ : St) (ς : Env), (∀ u, ς[v]? ≠ some (some u)) → sl (σ.set v none) ς = sl σ ς := by
              intro v
              induction v with
              | zero =>
                intro σ ς h
                cases σ with
                | nil => rfl
                | cons o σ => cases ς with
                  | nil => cases o <;> rfl
                  | cons p ς => cases p with
                    | none => simp [sl_cons_none]
                    | some p => exact absurd rfl (h p)
              | succ v ih =>
                intro σ ς h
                cases σ with
                | nil => rfl
                | cons o σ => cases ς with
                  | nil => cases o <;> rfl
                  | cons p ς =>
                    have ih' := ih σ ς (fun u => by simpa using h u)
                    simp only [List.set_cons_succ]
                    cases o with
                    | none => rw [sl_none_cons, sl_none_cons, ih']
                    | some o => cases p with
                      | none => rw [sl_cons_none, sl_cons_none, ih']
                      | some p => simp only [sl, ih']
            exact aux v _ _ hv
          rw [← e]; exact q.sp
        · obtain ⟨w, hw⟩ := q.cov i u hu
          have ne : v ≠ i := by
            rintro rfl
            exact h v (List.mem_cons_self ..) u hu
          have hw' : ((wipe σ vs).set v none)[i]? = some (some w) := hw
          rw [List.getElem?_set_ne ne] at hw'
          exact ⟨w, hw'⟩
        · have := q.len
          have e3 : ((wipe σ vs).set v none).length = (wipe σ vs).length := List.length_set ..
          show ς'.length = _
          rw [← e3]; exact this
      | some u =>
        obtain ⟨x, hx⟩ := s1.cov v u hc
        have hlt : v < (wipe σ vs).length := (List.getElem?_eq_some_iff.mp hx).1
        refine ⟨(x, u) :: sv, ?_, fun H' ς' tq q h => ?_⟩
        · have s2 : SP K H (((x, u) :: sl (wipe σ vs) ((wipeE ς vs).set v none)) ++ (sv ++ tp)) := s1.sp.perm ((sl_take hc hx).append_right _)
          have s3 : SR K H (wipe σ vs) ((wipeE ς vs).set v none) ((x, u) :: (sv ++ tp)) := ⟨SP.perm s2 front.symm, cov_set_none s1.cov, by rw [List.length_set]; exact s1.len⟩
          have s4 := s3.wipe1 v
          rw [List.set_set] at s4
          exact s4
        · unfold restE
          rw [hc]
          have hlv : v < ς'.length := by
            have := q.len
            have e3 : (wipe σ (v :: vs)).length = (wipe σ vs).length := List.length_set ..
            omega
          have q2 : SR K H' ((wipe σ (v :: vs)).set v (some x)) (ς'.set v (some u)) (sv ++ tq) := SR.store (v := x) (u := u) q (by rw [show (wipe σ (v :: vs)).length = (wipe σ vs).length from List.length_set ..]; exact hlt)
          have e4 : (wipe σ (v :: vs)).set v (some x) = wipe σ vs := by
            show ((wipe σ vs).set v none).set v (some x) = _
            rw [List.set_set]
            apply List.ext_getElem?; intro j
            by_cases hj : v = j
            · subst hj; rw [List.getElem?_set_self hlt, hx]
            · rw [List.getElem?_set_ne hj]
          rw [e4] at q2
          refine back H' _ tq q2 fun w hw u' => ?_
          by_cases e : v = w
          · subst e
            exact absurd hc (wipeE_at ς vs v hw u)
          · rw [List.getElem?_set_ne e]
            exact h w (List.mem_cons_of_mem _ hw) u'
end

/-! ### list comprehensions -/
def DTs (X : Cx) (W : WX) (ifs : List Expr) (m : Env → Res Bool) : Prop := PTs X ifs (LT X.K W m)
def mYes : Env → Res Bool := fun ς => .ok true ς
def loopC (vs : List Nat) (g : U → Env → Option Env) (tt : Env → Res Bool) (te : Env → Res Rv) : List U → List U → Env → Res (List U)
  | [], acc, ς => .ok acc ς
  | u :: us, acc, ς => match g u ς with
    | none => .stuck
    | some ς1 => match tt ς1 with
      | .ok true ς2 => match te ς2 with
        | .ok r ς3 => match r.share ς3 with
          | some (w, ς4) => loopC vs g tt te us (acc ++ [w]) (wipeE ς4 vs)
          | none => .stuck
        | _ => .stuck
      | .ok false ς2 => loopC vs g tt te us acc (wipeE ς2 vs)
      | _ => .stuck
def mLc (vs : List Nat) (src : Env → Res (List U)) (g : U → Env → Option Env) (tt : Env → Res Bool) (te : Env → Res Rv) : Env → Res Rv := fun ς => (src ς).bind fun us ς1 =>
  if us.length ≤ 1000000 then match loopC vs g tt te us [] (wipeE ς1 vs) with
    | .ok acc ς2 => .ok (.tm (.own acc)) (restE ς1 vs ς2)
    | _ => .stuck
  else .stuck
section
variable {X : Cx} {W : WX} {prot : Nat → Bool} {e a b tg : Expr} {es : List Expr} {st : Stmt} {sts : List Stmt} {pos : Pos}
theorem dts_nil : DTs X W [] mYes := ⟨fun pins s σ H Q I h => pts_nil.run pins s σ H Q I (by
  obtain ⟨ς, tp, s, o⟩ := h
  exact o H s)⟩
theorem dts_one {c : Expr} {t : Env → Res Bool} (h : DT X W c t) : DTs X W [c] t := pts_one h
/-- the heart: one comprehension's turns -/
theorem lc_turns {K : PySem.W.Frag} {src : Env → Res (List U)} {g : U → Env → Option Env} {tt : Env → Res Bool} {te : Env → Res Rv} {vs : List Nat} {σ : St} {H : Hp} {Q : VK} (hh : LE K W (mLc vs src g tt te) σ H Q) :
    tLc (LI K W src) (LG K (protC vs) g) (LT K W0 tt) (LE K W0 te) vs σ H Q := by
  obtain ⟨ς, tp, s, o⟩ := hh
  refine ⟨ς, tp, s, ?_⟩
  unfold mLc at o
  cases h1 : src ς with
  | stuck => rw [h1] at o; exact o
  | exc x ς1 => rw [h1] at o; exact o
  | ok us ς1 =>
    rw [h1] at o
    have o : OutE K W σ tp Q (if us.length ≤ 1000000 then match loopC vs g tt te us [] (wipeE ς1 vs) with
      | .ok acc ς2 => .ok (.tm (.own acc)) (restE ς1 vs ς2)
      | _ => .stuck
    else .stuck) := o
    split at o
    case isFalse => exact o.elim
    case isTrue hsz =>
    cases hl : loopC vs g tt te us [] (wipeE ς1 vs) with
    | stuck => rw [hl] at o; exact o.elim
    | exc x ς2 => rw [hl] at o; exact o.elim
    | ok accF ςF =>
      rw [hl] at o
      intro J H1 kp s1 sc D hD
      obtain ⟨G, Y, wk, gk, yk⟩ := sc.ex
      obtain ⟨sv, s2, back⟩ := s1.aside vs
      have kpOut : ∀ {H' σ' ς'} {acc : List U}, SR K H' σ' ς' ((V.ref D, .own acc) :: (sv ++ (kp ++ tp))) → SP K H' (kp ++ (sl σ' ς' ++ ((V.ref D, .own acc) :: (sv ++ tp)))) := fun {H' σ' ς' acc} s => s.sp.perm (by
        have e1 : ((V.ref D, U.own acc) :: (sv ++ (kp ++ tp))).Perm (kp ++ ((V.ref D, U.own acc) :: (sv ++ tp))) := (swapL.cons _).trans front.symm
        exact (e1.append_left _).trans swapL)
      refine lc_it wk (fun i H' => ∃ ς' acc, SR K H' (wipe σ vs) ς' ((V.ref D, .own acc) :: (sv ++ (kp ++ tp))) ∧ acc.length ≤ i ∧ (∀ v ∈ vs, ∀ u, ς'[v]? ≠ some (some u)) ∧ loopC vs g tt te (us.drop i) acc ς' = .ok accF ςF) ?_ (fun i H' _ ⟨ς', acc, s', _, _, _⟩ => gk _ _ (kpOut s')) ?_ ?_
      · refine ⟨wipeE ς1 vs, [], ?_, Nat.zero_le _, wipeE_at ς1 vs, by simpa using hl⟩
        exact s2.of_ahead (SP.newOwn (vs := []) (us := []) s2.sp rfl hD)
      · rintro i x H' H2 hi ⟨ς', acc, s', ha, hn, hr⟩ y
        obtain ⟨u, hu, sp2⟩ := yk i H' x H2 _ hi y (kpOut s')
        have hd : us.drop i = u :: us.drop (i + 1) := by
          have hl := (List.getElem?_eq_some_iff.mp hu)
          rw [List.drop_eq_getElem_cons hl.1, hl.2]
        rw [hd] at hr
        unfold loopC at hr
        refine ⟨u, ς', (V.ref D, .own acc) :: (sv ++ (kp ++ tp)), s'.sub (sp2.perm ?_), ?_⟩
        · have e1 : ((V.ref D, U.own acc) :: (sv ++ (kp ++ tp))).Perm (kp ++ ((V.ref D, U.own acc) :: (sv ++ tp))) := (swapL.cons _).trans front.symm
          have e2 : (kp ++ (sl (wipe σ vs) ς' ++ ((V.ref D, U.own acc) :: (sv ++ tp)))).Perm (sl (wipe σ vs) ς' ++ ((V.ref D, U.own acc) :: (sv ++ (kp ++ tp)))) := swapL.trans (e1.symm.append_left _)
          exact (e2.cons _).trans front.symm
        · cases hg' : g u ς' with
          | none => rw [hg'] at hr; cases hr
          | some ς2 =>
            rw [hg'] at hr
            intro σ2 H3 s3 p3
            have hw : wipe σ2 vs = wipe σ vs := (wipe_eq p3.1 fun j hj => p3.2 j (by simp [protC, hj])).trans wipe_wipe
            refine ⟨hw, ς2, _, s3, ?_⟩
            simp only at hr
            cases ht : tt ς2 with
            | stuck => rw [ht] at hr; cases hr
            | exc e ς3 => rw [ht] at hr; cases hr
            | ok b ς3 =>
              rw [ht] at hr
              intro H4 s4
              cases b with
              | false =>
                refine iteF ⟨wipeE ς3 vs, acc, ?_, by omega, wipeE_at ς3 vs, hr⟩
                rw [← hw]; exact s4.wipes vs
              | true =>
                refine iteT ⟨ς3, _, s4, ?_⟩
                simp only at hr
                cases he : te ς3 with
                | stuck => rw [he] at hr; cases hr
                | exc e ς4 => rw [he] at hr; cases hr
                | ok r ς4 =>
                  rw [he] at hr
                  intro y H5 s5 a5
                  simp only at hr
                  cases hsh : r.share ς4 with
                  | none => rw [hsh] at hr; cases hr
                  | some p =>
                    obtain ⟨w, ς5⟩ := p
                    rw [hsh] at hr
                    have s6 := share_ok s5 a5 hsh
                    have q1 : SP K H5 ((V.ref D, U.own acc) :: ((y, w) :: (sl σ2 ς5 ++ (sv ++ (kp ++ tp))))) := s6.ahead.perm ((front.cons _).trans (.swap _ _ _))
                    obtain ⟨p', av, ep, hp', hal, q2⟩ := q1.openL
                    cases ep
                    refine ⟨av, hp', ?_, wipeE ς5 vs, acc ++ [w], ?_, by simp; omega, wipeE_at ς5 vs, hr⟩
                    · have hs : sizeLine = 16777216 := PySem.sizeLine_eq
                      omega
                    · rw [← hw]
                      refine SR.wipes ?_ vs
                      have q3 : SP K H5 ((V.ref D, U.hole) :: ((av ++ [y]).zip (acc ++ [w]) ++ (sl σ2 ς5 ++ (sv ++ (kp ++ tp))))) := by
                        rw [List.zip_append hal, List.append_assoc]; exact q2
                      exact s6.of_ahead (q3.shutL (by simp [hal]))
      · rintro H' ⟨ς', acc, s', ha, hn, hr⟩
        rw [List.drop_length] at hr
        have e : acc = accF ∧ ς' = ςF := by
          have hr' : Res.ok acc ς' = Res.ok accF ςF := hr
          injection hr' with e1 e2
          exact ⟨e1, e2⟩
        obtain ⟨e1, e2⟩ := e; subst e1; subst e2
        have s3 : SR K H' (wipe σ vs) ς' (sv ++ ((V.ref D, .own acc) :: tp)) := s'.sub ((kpOut s').dropL.perm (front.symm.append_left _))
        exact o _ H' (back H' ς' _ s3 hn) trivial
theorem de_lc {elt iter : Expr} {ifs : List Expr} {scope : Scope} {own : List (Str × Nat)} {src : Env → Res (List U)} {g : U → Env → Option Env} {tt : Env → Res Bool} {te : Env → Res Rv} (hc : X.calm = true) (hN : X.N.Nodup) (hi : DI X W tg iter src) (ok : BlkOk X.N X.env.scope scope own)
    (hg : ∀ (s : Shared) (H : Hp) (C : Addr) (cl : List (Str × Addr)) (fp : List Addr), DG (X.blk s H scope (compEnvC scope cl C X.env) fp) (protC (own.map (·.2))) tg g) (ht : ∀ (s : Shared) (H : Hp) (C : Addr) (cl : List (Str × Addr)) (fp : List Addr), DTs (X.blk s H scope (compEnvC scope cl C X.env) fp) W0 ifs tt)
    (he : ∀ (s : Shared) (H : Hp) (C : Addr) (cl : List (Str × Addr)) (fp : List Addr), DE (X.blk s H scope (compEnvC scope cl C X.env) fp) W0 elt te) (hs : ∀ x, foldedSetIterable iter X.env x = pure x := by intro _; rfl) :
    DE X W (.ListComp elt [⟨tg, iter, ifs, 0⟩] scope pos) (mLc (own.map (·.2)) src g tt te) :=
  pe_weak (pe_lc (own := own) (g := LG X.K (protC (own.map fun p : Str × Nat => p.2)) g) (tt := LT X.K W0 tt) (te := LE X.K W0 te) (wi := LI X.K W src) hc hN hi ok hg ht he hs) fun σ H Q h => lc_turns h
theorem ds_setLc (i : Nat) {y : Str} {py spos : Pos} {elt iter : Expr} {ifs : List Expr} {scope : Scope} {own : List (Str × Nat)} {src : Env → Res (List U)} {g : U → Env → Option Env} {tt : Env → Res Bool} {te : Env → Res Rv} (hc : X.calm = true) (hN : X.N.Nodup) (hsw : swapsWith (.ListComp elt [⟨tg, iter, ifs, 0⟩] scope pos) (some (.Name y py)) spos.line X.env = pure true) (hi : DI X W tg iter src) (ok : BlkOk X.N X.env.scope scope own)
    (hg : ∀ (s : Shared) (H : Hp) (C : Addr) (cl : List (Str × Addr)) (fp : List Addr), DG (X.blk s H scope (compEnvC scope cl C X.env) fp) (protC (own.map (·.2))) tg g) (ht : ∀ (s : Shared) (H : Hp) (C : Addr) (cl : List (Str × Addr)) (fp : List Addr), DTs (X.blk s H scope (compEnvC scope cl C X.env) fp) W0 ifs tt)
    (he : ∀ (s : Shared) (H : Hp) (C : Addr) (cl : List (Str × Addr)) (fp : List Addr), DE (X.blk s H scope (compEnvC scope cl C X.env) fp) W0 elt te) (hp : prot i = false := by rfl) (hy : X.N[i]? = some y := by rfl) (hyl : X.env.scope.names.lookup y = some .local := by rfl) (hs : ∀ x, foldedSetIterable iter X.env x = pure x := by intro _; rfl) :
    DS X W prot (.Assign [.Name y py] (.ListComp elt [⟨tg, iter, ifs, 0⟩] scope pos) spos) (mAsg (mLc (own.map (·.2)) src g tt te) (gN i)) :=
  ps_weak (ps_setLc (i := i) (own := own) (g := LG X.K (protC (own.map fun p : Str × Nat => p.2)) g) (tt := LT X.K W0 tt) (te := LE X.K W0 te) (wi := LI X.K W src) hc hN hy hyl hsw hi ok hg ht he hs) fun D σ H ⟨ς, tp, s, o⟩ => by
    have q : LE X.K W (mLc (own.map (·.2)) src g tt te) σ H (fun x H1 => gName i x σ H1 D.nx) := by
      refine ls_e (prot := prot) (k := fun r ς => match r.share ς with
        | some (u, ς1) => match gN i u ς1 with
          | some ς2 => .ok .next ς2
          | none => .stuck
        | none => .stuck) (D := D) ⟨ς, tp, s, o⟩ fun x H ra ς tp s a o => ?_
      cases hs : ra.share ς with
      | none => simp only [hs] at o; exact o.elim
      | some p =>
        obtain ⟨u, ς1⟩ := p
        simp only [hs] at o
        have s1 := share_ok s a hs
        unfold gN at o
        split at o
        · rename_i h2
          split at h2
          · rename_i hl
            cases h2
            have hl' : i < σ.length := by rw [← s1.len]; exact hl
            exact o _ H (s1.store hl') (pr_set hp)
          · cases h2
        · exact o.elim
    exact lc_turns q
end
end Vm
end
section
set_option Elab.async false
set_option linter.all false
set_option maxRecDepth 100000
namespace Vm
open PySem L2

/-! ### how deep data is -/
def lev : Nat → PyData → Bool
  | n, .list xs => match n with
    | 0 => false
    | n + 1 => xs.all (lev n)
  | n, .tuple xs => match n with
    | 0 => false
    | n + 1 => xs.all (lev n)
  | _, _ => true
theorem lev_depth : ∀ (n : Nat) (d : PyData), lev n d = true → (∀ kvs, d ≠ .dict kvs) → d.plain = true → d.depth ≤ n := by
  intro n
  induction n with
  | zero =>
    intro d h hd _
    cases d with
    | list xs => simp [lev] at h
    | tuple xs => simp [lev] at h
    | dict kvs => exact absurd rfl (hd kvs)
    | _ => simp [PyData.depth]
  | succ n ih =>
    have all : ∀ xs : List PyData, xs.all (lev n) = true → PyData.plainAll xs = true → PyData.depthAll xs ≤ n := by
      intro xs
      induction xs with
      | nil => intro _ _; simp [PyData.depthAll]
      | cons x xs ih2 =>
        intro h hp
        rw [List.all_cons, Bool.and_eq_true] at h
        rw [PyData.plainAll, Bool.and_eq_true] at hp
        have h1 := ih x h.1 (fun kvs e => by subst e; cases hp.1) hp.1
        have h2 := ih2 h.2 hp.2
        rw [PyData.depthAll]; omega
    intro d h hd hp
    cases d with
    | list xs =>
      have := all xs (by simpa [lev] using h) (by simpa [PyData.plain] using hp)
      rw [PyData.depth]; omega
    | tuple xs =>
      have := all xs (by simpa [lev] using h) (by simpa [PyData.plain] using hp)
      rw [PyData.depth]; omega
    | dict kvs => exact absurd rfl (hd kvs)
    | _ => simp [PyData.depth]
mutual
theorem dp_plain {K : PySem.W.Frag} {H : Hp} : ∀ (d : PyData) (v : V), Dp K H v d → d.plain = true
  | .none, _, _ => rfl
  | .bool _, _, _ => rfl
  | .int _, _, _ => rfl
  | .str _, _, _ => rfl
  | .list xs, _, h => by cases h with | lst a b => rw [PyData.plain]; exact dpAll_plain xs _ b
  | .tuple xs, _, h => by cases h with | tup a b => rw [PyData.plain]; exact dpAll_plain xs _ b
  | .dict _, _, h => by cases h
theorem dpAll_plain {K : PySem.W.Frag} {H : Hp} : ∀ (xs : List PyData) (vs : List V), DpAll K H vs xs → PyData.plainAll xs = true
  | [], _, _ => rfl
  | x :: xs, _, h => by cases h with | cons a b => rw [PyData.plainAll, dp_plain x _ a, dpAll_plain xs _ b]; rfl
end
theorem dp_depth {K : PySem.W.Frag} {H : Hp} {n : Nat} {d : PyData} {v : V} (h : Dp K H v d) (l : lev n d = true) : d.depth ≤ n := lev_depth n d l (fun kvs e => by subst e; cases h) (dp_plain d v h)
theorem dpAll_depth {K : PySem.W.Frag} {H : Hp} {n : Nat} {xs : List PyData} {vs : List V} (h : DpAll K H vs xs) (l : xs.all (lev n) = true) : PyData.depthAll xs ≤ n := by
  induction xs generalizing vs with
  | nil => simp [PyData.depthAll]
  | cons x xs ih =>
    cases h with
    | cons a b =>
      rw [List.all_cons, Bool.and_eq_true] at l
      have h1 := dp_depth a l.1
      have h2 := ih b l.2
      rw [PyData.depthAll]; omega

section
variable {X : Cx} {W : WX} {prot : Nat → Bool} {e a b : Expr} {es : List Expr} {st : Stmt} {sts : List Stmt} {pos : Pos}
/-! ### == and the order -/
def fEq (d e : PyData) : Option PyData := if lev 8 d then some (.bool (PyData.eqv d e)) else none
def fNe (d e : PyData) : Option PyData := if lev 8 d then some (.bool (!PyData.eqv d e)) else none
def rDat (g : PyData → PyData → Bool) (C : PyData → PyData → Prop) (K : PySem.W.Frag) : R2 := fun x y H Q => ∃ d e, Dp K H x d ∧ Dp K H y e ∧ C d e ∧ Q (.bl (g d e)) H
theorem op_eqP (hu : X.A.units + 64 < cLine) : OpR X (compareOp .Eq) (rDat PyData.eqv (fun d _ => lev 8 d = true) X.K) := by
  intro pins s σ H x y v u Q I rx ry ⟨d, e, hd, he, hl, q⟩
  obtain ⟨as, r1⟩ := Dp.reads I d x v hd rx
  obtain ⟨bs, r2⟩ := Dp.reads I e y u he ry
  have := dp_depth hd hl
  exact SeqAt.eq_plain r1 r2 (dp_plain d x hd) (dp_plain e y he) (by omega) ⟨.bl _, H, I, rfl, q⟩
theorem op_neP (hu : X.A.units + 64 < cLine) : OpR X (compareOp .NotEq) (rDat (fun d e => !PyData.eqv d e) (fun d _ => lev 8 d = true) X.K) := by
  intro pins s σ H x y v u Q I rx ry ⟨d, e, hd, he, hl, q⟩
  obtain ⟨as, r1⟩ := Dp.reads I d x v hd rx
  obtain ⟨bs, r2⟩ := Dp.reads I e y u he ry
  have := dp_depth hd hl
  exact SeqAt.ne_plain r1 r2 (dp_plain d x hd) (dp_plain e y he) (by omega) ⟨.bl _, H, I, rfl, q⟩
def CLt (d e : PyData) : Prop := PySem.W.alike d e = true ∧ d ≠ .none ∧ lev 8 d = true
theorem op_ltP (hu : X.A.units + 64 < cLine) : OpR X (compareOp .Lt) (rDat PySem.W.dataLt CLt X.K) := by
  intro pins s σ H x y v u Q I rx ry ⟨d, e, hd, he, ⟨ha, hn, hl⟩, q⟩
  obtain ⟨as, r1⟩ := Dp.reads I d x v hd rx
  obtain ⟨bs, r2⟩ := Dp.reads I e y u he ry
  have := dp_depth hd hl
  exact PySem.W.lt_data r1 r2 ha hn (by omega) ⟨.bl _, H, I, rfl, q⟩
theorem op_gtP (hu : X.A.units + 64 < cLine) : OpR X (compareOp .Gt) (rDat (fun d e => PySem.W.dataLt e d) CLt X.K) := by
  intro pins s σ H x y v u Q I rx ry ⟨d, e, hd, he, ⟨ha, hn, hl⟩, q⟩
  obtain ⟨as, r1⟩ := Dp.reads I d x v hd rx
  obtain ⟨bs, r2⟩ := Dp.reads I e y u he ry
  have := dp_depth hd hl
  exact PySem.W.gt_data r1 r2 ha hn (by omega) ⟨.bl _, H, I, rfl, q⟩
theorem op_leP (hu : X.A.units + 64 < cLine) : OpR X (compareOp .LtE) (rDat (fun d e => !PySem.W.dataLt e d) CLt X.K) := by
  intro pins s σ H x y v u Q I rx ry ⟨d, e, hd, he, ⟨ha, hn, hl⟩, q⟩
  obtain ⟨as, r1⟩ := Dp.reads I d x v hd rx
  obtain ⟨bs, r2⟩ := Dp.reads I e y u he ry
  have := dp_depth hd hl
  exact PySem.W.le_data r1 r2 ha hn (by omega) ⟨.bl _, H, I, rfl, q⟩
theorem op_geP (hu : X.A.units + 64 < cLine) : OpR X (compareOp .GtE) (rDat (fun d e => !PySem.W.dataLt d e) CLt X.K) := by
  intro pins s σ H x y v u Q I rx ry ⟨d, e, hd, he, ⟨ha, hn, hl⟩, q⟩
  obtain ⟨as, r1⟩ := Dp.reads I d x v hd rx
  obtain ⟨bs, r2⟩ := Dp.reads I e y u he ry
  have := dp_depth hd hl
  exact PySem.W.ge_data r1 r2 ha hn (by omega) ⟨.bl _, H, I, rfl, q⟩
def notN : PyData → Bool
  | .none => false
  | _ => true
theorem notN_ok {d : PyData} (h : notN d = true) : d ≠ .none := by rintro rfl; cases h
def cmpB (g : PyData → PyData → Bool) (d e : PyData) : Option PyData := if PySem.W.alike d e && notN d && lev 8 d then some (.bool (g d e)) else none
def fLt : PyData → PyData → Option PyData
  | .int i, .int j => some (.bool (decide (i < j)))
  | d, e => cmpB PySem.W.dataLt d e
def fGt : PyData → PyData → Option PyData
  | .int i, .int j => some (.bool (decide (j < i)))
  | d, e => cmpB (fun d e => PySem.W.dataLt e d) d e
def fLe : PyData → PyData → Option PyData
  | .int i, .int j => some (.bool (decide (i ≤ j)))
  | d, e => cmpB (fun d e => !PySem.W.dataLt e d) d e
def fGe : PyData → PyData → Option PyData
  | .int i, .int j => some (.bool (decide (j ≤ i)))
  | d, e => cmpB (fun d e => !PySem.W.dataLt d e) d e
theorem cmpB_ok {g : PyData → PyData → Bool} {d e c : PyData} (h : cmpB g d e = some c) : CLt d e ∧ c = .bool (g d e) := by
  unfold cmpB at h
  split at h
  · rename_i hb
    rw [Bool.and_eq_true, Bool.and_eq_true] at hb
    exact ⟨⟨hb.1.1, notN_ok hb.1.2, hb.2⟩, (Option.some.inj h).symm⟩
  · cases h
theorem not_lt_dec (i j : Int) : (!decide (j < i)) = decide (i ≤ j) := by
  by_cases h : i ≤ j
  · rw [decide_eq_true h, decide_eq_false (by omega)]; rfl
  · rw [decide_eq_false h, decide_eq_true (by omega)]; rfl
theorem od_lt {K : PySem.W.Frag} : OpD K fLt (rDat PySem.W.dataLt CLt K) := fun x y d e c H Q hd he hf q => by
  have go : CLt d e ∧ c = .bool (PySem.W.dataLt d e) := by
    unfold fLt at hf
    split at hf
    · rename_i i j
      exact ⟨⟨rfl, fun z => (by cases z), rfl⟩, by rw [← Option.some.inj hf, PySem.W.dataLt_int]⟩
    · exact cmpB_ok hf
  exact ⟨d, e, hd, he, go.1, q _ (by rw [go.2]; rfl)⟩
theorem od_gt {K : PySem.W.Frag} : OpD K fGt (rDat (fun d e => PySem.W.dataLt e d) CLt K) := fun x y d e c H Q hd he hf q => by
  have go : CLt d e ∧ c = .bool (PySem.W.dataLt e d) := by
    unfold fGt at hf
    split at hf
    · rename_i i j
      exact ⟨⟨rfl, fun z => (by cases z), rfl⟩, by rw [← Option.some.inj hf, PySem.W.dataLt_int]⟩
    · exact cmpB_ok hf
  exact ⟨d, e, hd, he, go.1, q _ (by rw [go.2]; rfl)⟩
theorem od_le {K : PySem.W.Frag} : OpD K fLe (rDat (fun d e => !PySem.W.dataLt e d) CLt K) := fun x y d e c H Q hd he hf q => by
  have go : CLt d e ∧ c = .bool (!PySem.W.dataLt e d) := by
    unfold fLe at hf
    split at hf
    · rename_i i j
      exact ⟨⟨rfl, fun z => (by cases z), rfl⟩, by rw [← Option.some.inj hf, PySem.W.dataLt_int, not_lt_dec]⟩
    · exact cmpB_ok hf
  exact ⟨d, e, hd, he, go.1, q _ (by rw [go.2]; rfl)⟩
theorem od_ge {K : PySem.W.Frag} : OpD K fGe (rDat (fun d e => !PySem.W.dataLt d e) CLt K) := fun x y d e c H Q hd he hf q => by
  have go : CLt d e ∧ c = .bool (!PySem.W.dataLt d e) := by
    unfold fGe at hf
    split at hf
    · rename_i i j
      exact ⟨⟨rfl, fun z => (by cases z), rfl⟩, by rw [← Option.some.inj hf, PySem.W.dataLt_int, not_lt_dec]⟩
    · exact cmpB_ok hf
  exact ⟨d, e, hd, he, go.1, q _ (by rw [go.2]; rfl)⟩
theorem od_eq {K : PySem.W.Frag} : OpD K fEq (rDat PyData.eqv (fun d _ => lev 8 d = true) K) := fun x y d e c H Q hd he hf q => by
  unfold fEq at hf
  split at hf
  · rename_i hl
    exact ⟨d, e, hd, he, hl, q _ (by rw [← Option.some.inj hf]; rfl)⟩
  · cases hf
theorem od_ne {K : PySem.W.Frag} : OpD K fNe (rDat (fun d e => !PyData.eqv d e) (fun d _ => lev 8 d = true) K) := fun x y d e c H Q hd he hf q => by
  unfold fNe at hf
  split at hf
  · rename_i hl
    exact ⟨d, e, hd, he, hl, q _ (by rw [← Option.some.inj hf]; rfl)⟩
  · cases hf
/-! ### in -/
def fIn (neg : Bool) (d c : PyData) : Option PyData := match itemsOf c with
  | some xs => if lev 8 d then some (.bool (if neg then !(xs.any fun y => PyData.eqv y d) else xs.any fun y => PyData.eqv y d)) else none
  | none => none
def rInD (neg : Bool) (K : PySem.W.Frag) : R2 := fun x y H Q => ∃ d c xs, Dp K H x d ∧ Dp K H y c ∧ itemsOf c = some xs ∧ lev 8 d = true ∧ Q (.bl (if neg then !(xs.any fun y => PyData.eqv y d) else xs.any fun y => PyData.eqv y d)) H
theorem op_inP (hu : X.A.units + 64 < cLine) : OpR X (compareOp .In) (rInD false X.K) := by
  intro pins s σ H x y v u Q I rx ry ⟨d, c, xs, hd, hc, hi, hl, q⟩
  obtain ⟨as, r1⟩ := Dp.reads I d x v hd rx
  obtain ⟨bs, r2⟩ := Dp.reads I c y u hc ry
  have := dp_depth hd hl
  have hp := dp_plain c y hc
  cases c <;> simp [itemsOf] at hi <;> subst hi <;> rw [PyData.plain] at hp
  · exact SeqAt.in_list_data r2 r1 hp (dp_plain d x hd) (by omega) ⟨.bl _, H, I, rfl, q⟩
  · exact SeqAt.in_tuple_data r2 r1 hp (dp_plain d x hd) (by omega) ⟨.bl _, H, I, rfl, q⟩
theorem op_notInP (hu : X.A.units + 64 < cLine) : OpR X (compareOp .NotIn) (rInD true X.K) := by
  intro pins s σ H x y v u Q I rx ry ⟨d, c, xs, hd, hc, hi, hl, q⟩
  obtain ⟨as, r1⟩ := Dp.reads I d x v hd rx
  obtain ⟨bs, r2⟩ := Dp.reads I c y u hc ry
  have := dp_depth hd hl
  have hp := dp_plain c y hc
  cases c <;> simp [itemsOf] at hi <;> subst hi <;> rw [PyData.plain] at hp
  · exact SeqAt.notIn_list_data r2 r1 hp (dp_plain d x hd) (by omega) ⟨.bl _, H, I, rfl, q⟩
  · exact SeqAt.notIn_tuple_data r2 r1 hp (dp_plain d x hd) (by omega) ⟨.bl _, H, I, rfl, q⟩
theorem od_in {K : PySem.W.Frag} (neg : Bool) : OpD K (fIn neg) (rInD neg K) := fun x y d e c H Q hd he hf q => by
  unfold fIn at hf
  split at hf
  · rename_i xs hi
    split at hf
    · rename_i hl
      exact ⟨d, e, xs, hd, he, hi, hl, q _ (by rw [← Option.some.inj hf]; rfl)⟩
    · cases hf
  · cases hf
/-! ### numbers -/
def fAdd : PyData → PyData → Option PyData
  | .int i, .int j => some (.int (i + j))
  | _, _ => none
def fSub : PyData → PyData → Option PyData
  | .int i, .int j => some (.int (i - j))
  | .bool a, .bool b => some (.int ((if a = true then (1 : Int) else 0) - (if b = true then (1 : Int) else 0)))
  | _, _ => none
/-- together below a million bits -/
def fMul : PyData → PyData → Option PyData
  | .int i, .int j => if i.natAbs.log2 + j.natAbs.log2 < 1000000 then some (.int (i * j)) else none
  | _, _ => none
def fDiv : PyData → PyData → Option PyData
  | .int i, .int j => if j ≠ 0 ∧ j.natAbs.log2 < 9000 then some (.int (i.fdiv j)) else none
  | _, _ => none
def fMod : PyData → PyData → Option PyData
  | .int i, .int j => if 0 < j then some (.int (i % j)) else none
  | _, _ => none
theorem od_add {K : PySem.W.Frag} : OpD K fAdd (rI0 fun i j => .int (i + j)) := fun x y d e c H Q hd he hf q => by
  unfold fAdd at hf
  split at hf
  · rename_i i j
    exact ⟨i, j, dp_int hd, dp_int he, q _ (by rw [← Option.some.inj hf]; rfl)⟩
  · cases hf
theorem int_sub_bb (a b : Bool) : Gives (Builtin.«int.__sub__» ⟨[.bool a, .bool b], []⟩) (.int ((if a = true then (1 : Int) else 0) - (if b = true then (1 : Int) else 0))) :=
  .of_wp fun M A E s Q h => by obtain ⟨hp, g, d, tk, os⟩ := s; wp_walk; exact ⟨_, rfl, h⟩
/-- - of ints, of bools -/
def rSubX : R2 := fun x y H Q => rI0 (fun i j => .int (i - j)) x y H Q ∨ ∃ a b : Bool, x = .bl a ∧ y = .bl b ∧ Q (.int ((if a = true then (1 : Int) else 0) - (if b = true then (1 : Int) else 0))) H
theorem op_subX {X : Cx} : OpR X (binaryOp .Sub) rSubX := by
  intro pins s σ H x y v u Q I rx ry h
  rcases h with h | ⟨a, b, rfl, rfl, q⟩
  · exact op_sub pins s σ H x y v u Q I rx ry h
  · cases rx
    cases ry
    exact PySem.binaryOp_gives (op := .Sub) (PySem.typeIs_bool s a) (PySem.typeIs_bool s b) F.fills_bool_sub F.slot_bool_sub F.entry_int_sub (F.args_int_sub_2 _ _) (int_sub_bb a b) trivial ⟨.int _, H, I.tok _, ⟨_, rfl⟩, q⟩
theorem od_sub {K : PySem.W.Frag} : OpD K fSub rSubX := fun x y d e c H Q hd he hf q => by
  unfold fSub at hf
  split at hf
  · rename_i i j
    exact .inl ⟨i, j, dp_int hd, dp_int he, q _ (by rw [← Option.some.inj hf]; rfl)⟩
  · rename_i a b
    cases hd
    cases he
    exact .inr ⟨a, b, rfl, rfl, q _ (by rw [← Option.some.inj hf]; rfl)⟩
  · cases hf
theorem od_mul {K : PySem.W.Frag} : OpD K fMul (rI CMulW fun i j => .int (i * j)) := fun x y d e c H Q hd he hf q => by
  unfold fMul at hf
  split at hf
  · rename_i i j
    split at hf
    · rename_i hb
      exact ⟨i, j, dp_int hd, dp_int he, hb, q _ (by rw [← Option.some.inj hf]; rfl)⟩
    · cases hf
  · cases hf
/-- // by any divisor but 0 below 2 ^ 9000 -/
def CDivF (_ j : Int) : Prop := j ≠ 0 ∧ j.natAbs.log2 < 9000
theorem op_fdivF {X : Cx} : OpR X (binaryOp .FloorDiv) (rI CDivF fun i j => .int (i.fdiv j)) := opI fun i j _ _ _ _ _ hc q => PyProof.Rows.floordiv_int hc.1 q (.inl (PyProof.noPylong_of_log2 hc.2))
theorem od_div {K : PySem.W.Frag} : OpD K fDiv (rI CDivF fun i j => .int (i.fdiv j)) := fun x y d e c H Q hd he hf q => by
  unfold fDiv at hf
  split at hf
  · rename_i i j
    split at hf
    · rename_i hb
      exact ⟨i, j, dp_int hd, dp_int he, hb, q _ (by rw [← Option.some.inj hf]; rfl)⟩
    · cases hf
  · cases hf
theorem od_mod {K : PySem.W.Frag} : OpD K fMod (rI (fun _ j => 0 < j) fun i j => .int (i % j)) := fun x y d e c H Q hd he hf q => by
  unfold fMod at hf
  split at hf
  · rename_i i j
    split at hf
    · rename_i hb
      exact ⟨i, j, dp_int hd, dp_int he, hb, q _ (by rw [← Option.some.inj hf]; rfl)⟩
    · cases hf
  · cases hf
/-- ** by a small exponent -/
def fPow : PyData → PyData → Option PyData
  | .int i, .int j => if 0 ≤ j ∧ j ≤ 1000000 ∧ i.natAbs < 2 ^ 64 then some (.int (i ^ j.toNat)) else none
  | _, _ => none
theorem od_pow {K : PySem.W.Frag} : OpD K fPow (rI CPow fun i j => .int (i ^ j.toNat)) := fun x y d e c H Q hd he hf q => by
  unfold fPow at hf
  split at hf
  · rename_i i j
    split at hf
    · rename_i hb
      exact ⟨i, j, dp_int hd, dp_int he, hb, q _ (by rw [← Option.some.inj hf]; rfl)⟩
    · cases hf
  · cases hf
def fNeg : PyData → Option PyData
  | .int i => some (.int (-i))
  | _ => none
theorem ud_neg {K : PySem.W.Frag} : UnD K fNeg (rU fun i => .int (-i)) := fun x d c H Q hd hf q => by
  unfold fNeg at hf
  split at hf
  · rename_i i
    exact ⟨i, dp_int hd, q _ (by rw [← Option.some.inj hf]; rfl)⟩
  · cases hf
/-! ### is None -/
def fIsN : PyData → Option PyData
  | .none => some (.bool true)
  | .dict _ => none
  | _ => some (.bool false)
theorem pc_isN_ok {K : PySem.W.Frag} {ma : Env → Res Rv} {g : Bool → Bool} {σ : St} {H : Hp} {Q : VK} (h : LE K W (mUn (fun d => (fIsN d).map fun c => match c with
    | .bool b => .bool (g b)
    | c => c) ma) σ H Q) : LE K W ma σ H fun x H1 => Q (.bl (g (decide (x = .non)))) H1 := le_1 h fun x H ra ς tp s a1 o => by
  unfold kSc1 at o
  split at o
  · rename_i c hc
    obtain ⟨d, hd, hf⟩ := pk1_ok s a1 hc
    refine o _ H (s.dropL.putD ?_) trivial
    cases d <;> cases hd <;> simp [fIsN] at hf <;> subst hf <;> simp [scV]
  · exact o.elim
def mIsN (ma : Env → Res Rv) : Env → Res Rv := mUn (fun d => (fIsN d).map fun c => match c with
    | .bool b => .bool b
    | c => c) ma
def mNotN (ma : Env → Res Rv) : Env → Res Rv := mUn (fun d => (fIsN d).map fun c => match c with
    | .bool b => .bool (!b)
    | c => c) ma
theorem de_isN {ma : Env → Res Rv} {j : Nat} {p' : Pos} (ha : DE X W a ma) : DE X W (.Compare a [.Is] [.Constant .none j p'] pos) (mIsN ma) :=
  pe_weak (pe_cmp (pc_isN ha)) fun σ H Q h => pc_isN_ok (g := id) h
theorem de_notN {ma : Env → Res Rv} {j : Nat} {p' : Pos} (ha : DE X W a ma) : DE X W (.Compare a [.IsNot] [.Constant .none j p'] pos) (mNotN ma) :=
  pe_weak (pe_cmp (pc_notN ha)) fun σ H Q h => pc_isN_ok (g := not) h
end
end Vm
end
section
set_option Elab.async false
set_option linter.all false
set_option maxRecDepth 100000
namespace Vm
open PySem L2 PySem.W

/-! ### calls of builtins by kernels -/
def CaK (X : Cx) (W : WX) (f : Value) (k : List Rv → Env → Res Rv) : Prop :=
  ∃ r, CallR X f r ∧ ∀ vs H rs σ ς tp Q, SR X.K H σ ς (tmps rs vs ++ tp) → ats σ rs vs → OutE X.K W σ tp Q (k rs ς) → r vs H Q
section
variable {X : Cx} {W : WX} {e a b : Expr} {es : List Expr} {pos : Pos} {f : Value} {k : List Rv → Env → Res Rv}
theorem cak_sc {r : List V → Hp → VK → Prop} {g : List PyData → Option PyData} (hc : CallR X f r) (hf : CaD X.K g r) : CaK X W f (kScA g) :=
  ⟨r, hc, fun _ _ _ _ _ _ _ s a o => ca_sc hf s a o⟩
theorem de_cb {x : Str} {p : Pos} {id : String} {ms : Env → Res (List Rv)} (hc : CaK X W (.builtin id) k) (hg : Gl X x) (hm : X.mg x = none) (hv : bootBuiltins x = some (.builtin id)) (ha : DA X W (e :: es) ms)
    (hn : x ≠ "__name__" := by decide) (hdb : (x == ("__debug__" : Str)) = false := by decide) (he : starEach (e :: es) X.env = (false, eval e X.env) :: starEach es X.env := by rfl)
    (hpl : (backTo pos (starEach es X.env)).any (·.1) = false := by rfl) : DE X W (.Call (.Name x p) (e :: es) [] pos) (mA ms k) := by
  obtain ⟨r, hc, hk⟩ := hc
  exact pe_weak (pe_callB hc hg hm hv ha hn hdb he hpl) fun σ H Q h => le_a h fun vs H rs ς tp s a o => hk vs H rs σ ς tp Q s a o
theorem de_ct {x : Str} {p : Pos} {T : String} {ms : Env → Res (List Rv)} (hc : CaK X W (.type T) k) (hg : Gl X x) (hm : X.mg x = none) (hv : bootBuiltins x = some (.type T)) (ha : DA X W (e :: es) ms)
    (hn : x ≠ "__name__" := by decide) (hdb : (x == ("__debug__" : Str)) = false := by decide) (he : starEach (e :: es) X.env = (false, eval e X.env) :: starEach es X.env := by rfl)
    (hpl : (backTo pos (starEach es X.env)).any (·.1) = false := by rfl) : DE X W (.Call (.Name x p) (e :: es) [] pos) (mA ms k) := by
  obtain ⟨r, hc, hk⟩ := hc
  exact pe_weak (pe_callTy hc hg hm hv ha hn hdb he hpl) fun σ H Q h => le_a h fun vs H rs ς tp s a o => hk vs H rs σ ς tp Q s a o
/-- a builtin that the module itself names (gcd) -/
theorem de_cf {x : Str} {p : Pos} {id : String} {ms : Env → Res (List Rv)} (hc : CaK X W (.builtin id) k) (hg : Gl X x) (hm : X.mg x = some (.builtin id)) (ha : DA X W (e :: es) ms)
    (hdb : (x == ("__debug__" : Str)) = false := by decide) (he : starEach (e :: es) X.env = (false, eval e X.env) :: starEach es X.env := by rfl)
    (hpl : (backTo pos (starEach es X.env)).any (·.1) = false := by rfl) : DE X W (.Call (.Name x p) (e :: es) [] pos) (mA ms k) := by
  obtain ⟨r, hc, hk⟩ := hc
  exact pe_weak (pe_callBfun hc hg hm ha hdb he hpl) fun σ H Q h => le_a h fun vs H rs ς tp s a o => hk vs H rs σ ς tp Q s a o
/-- a builtin type's name as a value -/
theorem de_bn {x : Str} {v : V} {u : Value} (hg : Gl X x) (hm : X.mg x = none) (hv : bootBuiltins x = some u) (r : RelV v u) (hn : x ≠ "__name__" := by decide) (hd : (x == ("__debug__" : Str)) = false := by decide) :
    DE X W (.Name x pos) (mU (.raw v)) :=
  pe_weak (pe_bltn hg hm hv r hn hd) fun σ H Q ⟨ς, tp, s, o⟩ => o v H (s.of_ahead (s.sp.raw v)) trivial

/-! ### scalars -/
def fAbs : List PyData → Option PyData
  | [.int i] => some (.int (if i < 0 then -i else i))
  | _ => none
theorem ca_abs : CaK X W (.builtin "abs") (kScA fAbs) := cak_sc call_abs fun vs ds c H Q hd hf q => by
  unfold fAbs at hf
  split at hf
  · rename_i i
    obtain ⟨v, rfl, h⟩ := dpAll1 hd
    exact ⟨i, by rw [dp_int h], q _ (by rw [← Option.some.inj hf]; rfl)⟩
  · cases hf
def fMax2 : List PyData → Option PyData
  | [.int i, .int j] => some (.int (if j > i then j else i))
  | _ => none
theorem ca_max2 (hc : X.calm = true) : CaK X W (.builtin "max") (kScA fMax2) := cak_sc (call_max2 hc) fun vs ds c H Q hd hf q => by
  unfold fMax2 at hf
  split at hf
  · rename_i i j
    obtain ⟨v, w, rfl, h, g⟩ := dpAll2 hd
    exact ⟨i, j, by rw [dp_int h, dp_int g], q _ (by rw [← Option.some.inj hf]; rfl)⟩
  · cases hf
def fMin2 : List PyData → Option PyData
  | [.int i, .int j] => some (.int (if j < i then j else i))
  | _ => none
theorem ca_min2 (hc : X.calm = true) : CaK X W (.builtin "min") (kScA fMin2) := cak_sc (call_min2 hc) fun vs ds c H Q hd hf q => by
  unfold fMin2 at hf
  split at hf
  · rename_i i j
    obtain ⟨v, w, rfl, h, g⟩ := dpAll2 hd
    exact ⟨i, j, by rw [dp_int h, dp_int g], q _ (by rw [← Option.some.inj hf]; rfl)⟩
  · cases hf
def fInt : List PyData → Option PyData
  | [.int i] => some (.int i)
  | [.bool b] => some (.int (if b then 1 else 0))
  | _ => none
theorem ca_int : CaK X W (.type "int") (kScA fInt) := cak_sc call_int1 fun vs ds c H Q hd hf q => by
  unfold fInt at hf
  split at hf
  · rename_i i
    obtain ⟨v, rfl, h⟩ := dpAll1 hd
    exact .inl ⟨i, by rw [dp_int h], q _ (by rw [← Option.some.inj hf]; rfl)⟩
  · rename_i b
    obtain ⟨v, rfl, h⟩ := dpAll1 hd
    exact .inr ⟨b, by rw [dp_bl h], q _ (by rw [← Option.some.inj hf]; rfl)⟩
  · cases hf
def fGcd : List PyData → Option PyData
  | [.int i, .int j] => some (.int ((Nat.gcd i.natAbs j.natAbs : Nat) : Int))
  | _ => none
theorem ca_gcd : CaK X W (.builtin "math.gcd") (kScA fGcd) := cak_sc cr_gcd fun vs ds c H Q hd hf q => by
  unfold fGcd at hf
  split at hf
  · rename_i i j
    obtain ⟨v, w, rfl, h, g⟩ := dpAll2 hd
    exact ⟨i, j, by rw [dp_int h, dp_int g], q _ (by rw [← Option.some.inj hf]; rfl)⟩
  · cases hf

/-! ### len -/
def lenU : U → Option Nat
  | .own us => some us.length
  | .d (.list xs) => some xs.length
  | .d (.tuple xs) => some xs.length
  | .d (.str x) => if x.length ≤ sizeLine then some x.length else none
  | _ => none
def kLen (rs : List Rv) (ς : Env) : Res Rv := match rs with
  | [r] => match r.peek ς with
    | some u => match lenU u with
      | some n => .ok (.tm (.d (.int (n : Nat)))) ς
      | none => .stuck
    | none => .stuck
  | _ => .stuck
/-- a value that is looked at, with what stands beside it -/
theorem look_ok {K : PySem.W.Frag} {r : Rv} {v : V} {u : U} {H : Hp} {σ : St} {ς : Env} {tp : PL} (s : SR K H σ ς (r.tmp v ++ tp)) (a : r.at σ v) (h : r.peek ς = some u) : ∃ ps, SP K H ((v, u) :: ps) := by
  cases r with
  | tm w =>
    have e : w = u := by simpa [Rv.peek] using h
    subst e
    exact ⟨_, SR.ahead s⟩
  | pl i =>
    have s : SR K H σ ς tp := s
    have a : σ[i]? = some (some v) := a
    cases hc : ς[i]? with
    | none => simp [Rv.peek, hc] at h
    | some o =>
      cases o with
      | none => simp [Rv.peek, hc] at h
      | some w =>
        have e : w = u := by simpa [Rv.peek, hc] using h
        subst e
        obtain ⟨v', hv, p⟩ := s.slot hc
        rw [a] at hv; cases hv
        exact ⟨_, p⟩
theorem ats1 {K : PySem.W.Frag} {r : Rv} {vs : List V} {H : Hp} {σ : St} {ς : Env} {tp : PL} (s : SR K H σ ς (tmps [r] vs ++ tp)) (a : ats σ [r] vs) : ∃ v, vs = [v] ∧ SR K H σ ς (r.tmp v ++ tp) ∧ r.at σ v := by
  match vs, a with
  | [v], a => exact ⟨v, rfl, by simpa [tmps] using s, a.1⟩
theorem ca_len : CaK X W (.builtin "len") kLen := by
  refine ⟨fun vs H Q => (∃ p ys, vs = [.ref p] ∧ (SqL X.K H p ys ∨ SqT X.K H p ys) ∧ Q (.int ys.length) H) ∨ ∃ z, vs = [.str z] ∧ z.length ≤ sizeLine ∧ Q (.int z.length) H, ?_, ?_⟩
  · intro pins s σ H xs us Q I r h
    rcases h with h | h
    · exact call_len_seq pins s σ H xs us Q I r h
    · exact call_len_str pins s σ H xs us Q I r h
  · intro vs H rs σ ς tp Q s a o
    unfold kLen at o
    split at o
    · rename_i r
      obtain ⟨v, rfl, s1, a1⟩ := ats1 s a
      split at o
      · rename_i u hu
        split at o
        · rename_i n hn
          obtain ⟨ps, q⟩ := look_ok s1 a1 hu
          have fin : Q (.int (n : Nat)) H := o _ H (s1.dropL.putD rfl) trivial
          cases u with
          | own us =>
            obtain ⟨p, ys, rfl, hp, hl, _⟩ := q.openL
            have e : us.length = n := by simpa [lenU] using hn
            exact .inl ⟨p, ys, rfl, .inl (.inl (.inl hp)), by rw [hl, e]; exact fin⟩
          | d x =>
            cases x with
            | list xs =>
              obtain ⟨p, ys, rfl, hp, hl, _⟩ := q.itemsL
              have e : xs.length = n := by simpa [lenU] using hn
              exact .inl ⟨p, ys, rfl, .inl hp, by rw [hl, e]; exact fin⟩
            | tuple xs =>
              obtain ⟨p, ys, rfl, hp, hl, _⟩ := q.itemsT
              have e : xs.length = n := by simpa [lenU] using hn
              exact .inl ⟨p, ys, rfl, .inr hp, by rw [hl, e]; exact fin⟩
            | str z =>
              have hz : z.length ≤ sizeLine ∧ z.length = n := by
                by_cases hz : z.length ≤ sizeLine
                · exact ⟨hz, by simpa [lenU, hz] using hn⟩
                · simp [lenU, hz] at hn
              have e := dp_str (q.peek (x := .str z) rfl)
              exact .inr ⟨z, by rw [e], hz.1, by rw [hz.2]; exact fin⟩
            | _ => simp [lenU] at hn
          | _ => simp [lenU] at hn
        · exact o.elim
      · exact o.elim
    · exact o.elim

/-! ### data in, a scalar out, by the library's rules over what is read -/
def rDatS (K : PySem.W.Frag) (g : PyData → Option PyData) : List V → Hp → VK → Prop := fun vs H Q => ∃ v d c, vs = [v] ∧ Dp K H v d ∧ g d = some c ∧ ∀ x, scV c = some x → Q x H
theorem cak_datS {g : PyData → Option PyData} (hc : CallR X f (rDatS X.K g)) : CaK X W f (kScA fun ds => match ds with
    | [d] => g d
    | _ => none) := cak_sc hc fun vs ds c H Q hd hf q => by
  split at hf
  · obtain ⟨v, rfl, h⟩ := dpAll1 hd
    exact ⟨v, _, c, rfl, h, hf, q⟩
  · cases hf
/-! ### repr -/
def fRepr (d : PyData) : Option PyData := if d.showable && decide (d.shown.length ≤ sizeLine) && lev 8 d then some (.str d.shown) else none
theorem hasDict_plain : ∀ d : PyData, d.plain = true → d.hasDict = false := by
  have go : (∀ d : PyData, d.plain = true → d.hasDict = false) ∧ True := ⟨fun d => ?_, trivial⟩
  · exact go.1
  · refine PyData.rec (motive_1 := fun d => d.plain = true → d.hasDict = false) (motive_2 := fun ds => PyData.plainAll ds = true → PyData.hasDictAll ds = false)
      (motive_3 := fun _ => True) (motive_4 := fun _ => True) ?_ ?_ ?_ ?_ ?_ ?_ ?_ ?_ ?_ ?_ ?_ ?_ d <;> intros <;> simp_all [PyData.plain, PyData.hasDict, PyData.plainAll, PyData.hasDictAll]
theorem cr_repr (hg : NoG X.A) (hu : X.A.units + 64 < cLine) : CallR X (.builtin "repr") (rDatS X.K fRepr) := by
  intro pins s σ H xs us Q I r ⟨v, d, c, e, hd, hf, q⟩
  subst e
  obtain ⟨u, rfl, ru⟩ := vals1 r
  unfold fRepr at hf
  split at hf
  · rename_i hz
    rw [Bool.and_eq_true, Bool.and_eq_true] at hz
    obtain ⟨⟨hs, hl⟩, h8⟩ := hz
    have hl := of_decide_eq_true hl
    have q' : Q (.str d.shown) H := q _ (by rw [← Option.some.inj hf]; rfl)
    have hp := dp_plain d v hd
    have hdep := dp_depth hd h8
    have ref : ∀ a, u = Value.ref a → wpAny (model X.prog X.w) X.A (call (.builtin "repr") [u]) (EP X pins σ Q) X.xe s := fun a e => by
      obtain ⟨as, rd⟩ := Dp.reads I d v u hd ru
      subst e
      refine repr_of_reads' rd hs (fun z => ?_) hg (by omega) (fun _ _ e => e) (fun h' t tk k => ⟨.str _, H, I.kept k, ⟨_, rfl⟩, q'⟩) hl
      rw [hasDict_plain d hp] at z; cases z
    cases d with
    | none => cases hd; cases ru; exact PySem.P.repr_of_none ⟨.str _, H, I.tok _, ⟨_, rfl⟩, q'⟩
    | bool b => cases hd; cases ru; exact PySem.P.repr_of_bool ⟨.str _, H, I.tok _, ⟨_, rfl⟩, q'⟩
    | int i =>
      cases hd; obtain ⟨t, rfl⟩ := ru
      exact PySem.P.repr_of_int (by simpa [PyData.showable] using hs) ⟨.str _, H, I.tok _, ⟨_, rfl⟩, q'⟩
    | str z => cases hd; obtain ⟨t, rfl⟩ := ru; exact PySem.P.repr_of_str ⟨.str _, H, I.tok _, ⟨_, rfl⟩, q'⟩ hl
    | list xs => obtain ⟨a, vs, rfl, _, _⟩ := dp_lst hd; exact ref a ru
    | tuple xs => obtain ⟨a, vs, rfl, _, _⟩ := dp_tup hd; exact ref a ru
    | dict kvs => cases hd
  · cases hf
def kRepr := kScA fun ds => match ds with
    | [d] => fRepr d
    | _ => none
theorem ca_repr (hg : NoG X.A) (hu : X.A.units + 64 < cLine) : CaK X W (.builtin "repr") kRepr := cak_datS (cr_repr hg hu)
end
end Vm
end
section
set_option Elab.async false
set_option linter.all false
set_option maxRecDepth 100000
namespace Vm
open PySem L2 PySem.W

/-! ### the items of a list or a tuple, as data -/
def itemsD (r : Rv) (ς : Env) : Option (Bool × List PyData × Env) := match r with
  | .tm (.own us) => match U.toDs us with
    | some xs => some (false, xs, ς)
    | none => none
  | .tm (.d (.list xs)) => some (false, xs, ς)
  | .tm (.d (.tuple xs)) => some (true, xs, ς)
  | .pl i => match ς[i]? with
    | some (some (.own us)) => match U.toDs us with
      | some xs => some (false, xs, ς.set i (some (.own (xs.map .d))))
      | none => none
    | some (some (.d (.list xs))) => some (false, xs, ς)
    | some (some (.d (.tuple xs))) => some (true, xs, ς)
    | _ => none
  | _ => none
def SqX (K : PySem.W.Frag) (t : Bool) (H : Hp) (a : Addr) (vs : List V) : Prop := match t with
  | false => LstN K H a vs
  | true => TupN K H a vs
theorem upd_id {H : Hp} {p : Addr} {o : HO} (h : H p = some o) : upd H p o = H := by
  funext q
  by_cases e : q = p
  · subst e; rw [upd_same, h]
  · rw [upd_ne e]
theorem toDs_len : ∀ {us : List U} {xs : List PyData}, U.toDs us = some xs → us.length = xs.length
  | [], xs, h => by have e : [] = xs := by simpa [U.toDs] using h
                    subst e; rfl
  | u :: us, xs, h => by
    unfold U.toDs at h
    split at h
    · rename_i x ys h1 h2
      have e : x :: ys = xs := by simpa using h
      subst e
      simp [toDs_len h2]
    · cases h
section
variable {K : PySem.W.Frag} {H H' : Hp} {σ : L2.St} {ς ς' : Env} {tp tq : PL}
/-- items frozen, one after another -/
theorem SP.freezeAll : ∀ {us : List U} {vs : List V} {xs : List PyData} {ps : PL}, U.toDs us = some xs → vs.length = us.length → SP K H (vs.zip us ++ ps) → SP K H (vs.zip (xs.map .d) ++ ps)
  | [], vs, xs, ps, h, hl, s => by
    have e : [] = xs := by simpa [U.toDs] using h
    subst e
    simpa using s
  | u :: us, [], xs, ps, h, hl, s => by simp at hl
  | u :: us, v :: vs, xs, ps, h, hl, s => by
    unfold U.toDs at h
    split at h
    · rename_i x ys h1 h2
      have e : x :: ys = xs := by simpa using h
      subst e
      have s1 : SP K H ((v, U.d x) :: (vs.zip us ++ ps)) := SP.freeze s h1
      have s2 : SP K H (vs.zip us ++ ((v, U.d x) :: ps)) := s1.perm front.symm
      have s3 := SP.freezeAll h2 (by simpa using hl) s2
      exact s3.perm front
    · cases h
theorem SP.dupAll : ∀ {xs : List PyData} {vs : List V} {ps : PL}, vs.length = xs.length → SP K H (vs.zip (xs.map .d) ++ ps) → SP K H (vs.zip (xs.map .d) ++ (vs.zip (xs.map .d) ++ ps))
  | [], vs, ps, hl, s => by simpa using s
  | x :: xs, [], ps, hl, s => by simp at hl
  | x :: xs, v :: vs, ps, hl, s => by
    have s1 : SP K H ((v, U.d x) :: (v, U.d x) :: (vs.zip (xs.map .d) ++ ps)) := SP.dup s
    have s2 : SP K H (vs.zip (xs.map .d) ++ ((v, U.d x) :: (v, U.d x) :: ps)) := s1.perm (by
      have e1 : ((v, U.d x) :: (v, U.d x) :: (vs.zip (xs.map U.d) ++ ps)).Perm ((v, U.d x) :: (vs.zip (xs.map U.d) ++ (v, U.d x) :: ps)) := front.symm.cons _
      exact e1.trans front.symm)
    have s3 := SP.dupAll (by simpa using hl) s2
    refine s3.perm ?_
    show List.Perm (vs.zip (xs.map U.d) ++ (vs.zip (xs.map U.d) ++ (v, U.d x) :: (v, U.d x) :: ps)) ((v, U.d x) :: (vs.zip (xs.map U.d) ++ ((v, U.d x) :: (vs.zip (xs.map U.d) ++ ps))))
    have e1 : (vs.zip (xs.map U.d) ++ (v, U.d x) :: (v, U.d x) :: ps).Perm ((v, U.d x) :: (v, U.d x) :: (vs.zip (xs.map U.d) ++ ps)) := front.trans (front.cons _)
    refine (e1.append_left _).trans (front.trans ?_)
    exact List.Perm.refl _
theorem itemsD_ok {r : Rv} {v : V} {t : Bool} {xs : List PyData} (s : SR K H σ ς (r.tmp v ++ tp)) (a : r.at σ v) (h : itemsD r ς = some (t, xs, ς')) :
    ∃ p vs, v = .ref p ∧ SqX K t H p vs ∧ vs.length = xs.length ∧ SR K H σ ς' (vs.zip (xs.map .d) ++ tp) := by
  unfold itemsD at h
  split at h
  · rename_i us
    split at h
    · rename_i ys hy
      have e : false = t ∧ ys = xs ∧ ς = ς' := by simpa using h
      obtain ⟨rfl, rfl, rfl⟩ := e
      obtain ⟨p, vs, rfl, hp, hl, q⟩ := (SR.ahead s).openL
      refine ⟨p, vs, rfl, .inl (.inl hp), hl.trans (toDs_len hy), s.sub ?_⟩
      have q2 := SP.freezeAll hy hl q.tail
      refine q2.perm swapL
    · cases h
  · rename_i ys
    have e : false = t ∧ ys = xs ∧ ς = ς' := by simpa using h
    obtain ⟨rfl, rfl, rfl⟩ := e
    obtain ⟨p, vs, rfl, hp, hl, q⟩ := (SR.ahead s).itemsLN
    exact ⟨p, vs, rfl, hp, hl, s.sub ((q.perm front).tail.perm swapL)⟩
  · rename_i ys
    have e : true = t ∧ ys = xs ∧ ς = ς' := by simpa using h
    obtain ⟨rfl, rfl, rfl⟩ := e
    obtain ⟨p, vs, rfl, hp, hl, q⟩ := (SR.ahead s).itemsTN
    exact ⟨p, vs, rfl, hp, hl, s.sub ((q.perm front).tail.perm swapL)⟩
  · rename_i i
    have s : SR K H σ ς tp := s
    have a : σ[i]? = some (some v) := a
    split at h
    · rename_i us hc
      split at h
      · rename_i ys hy
        have e : false = t ∧ ys = xs ∧ ς.set i (some (.own (ys.map .d))) = ς' := by simpa using h
        obtain ⟨rfl, rfl, rfl⟩ := e
        obtain ⟨v', hv, q⟩ := s.slot hc
        rw [a] at hv; cases hv
        obtain ⟨p, vs, rfl, hp, hl, q1⟩ := q.openL
        refine ⟨p, vs, rfl, .inl (.inl hp), hl.trans (toDs_len hy), ?_⟩
        have hl2 : vs.length = (ys.map U.d).length := by rw [List.length_map]; exact hl.trans (toDs_len hy)
        have q2 : SP K H (vs.zip us ++ ((V.ref p, U.hole) :: (sl σ (ς.set i none) ++ tp))) := q1.perm front.symm
        have q3 := SP.dupAll (hl.trans (toDs_len hy)) (SP.freezeAll hy hl q2)
        have q4 : SP K H ((V.ref p, U.hole) :: (vs.zip (ys.map U.d) ++ (vs.zip (ys.map U.d) ++ (sl σ (ς.set i none) ++ tp)))) := q3.perm (by
          have e1 : (vs.zip (ys.map U.d) ++ ((V.ref p, U.hole) :: (sl σ (ς.set i none) ++ tp))).Perm ((V.ref p, U.hole) :: (vs.zip (ys.map U.d) ++ (sl σ (ς.set i none) ++ tp))) := front
          exact (e1.append_left _).trans front)
        have q5 := q4.shutL hl2
        have e5 : upd H p (.lst vs) = H := upd_id hp
        rw [e5] at q5
        refine s.reslot hc a (tp := vs.zip (ys.map U.d) ++ tp) ?_
        refine q5.perm (List.Perm.cons _ swapL)
      · cases h
    · rename_i ys hc
      have e : false = t ∧ ys = xs ∧ ς = ς' := by simpa using h
      obtain ⟨rfl, rfl, rfl⟩ := e
      obtain ⟨v', hv, q⟩ := s.slot hc
      rw [a] at hv; cases hv
      obtain ⟨p, vs, rfl, hp, hl, q⟩ := q.itemsLN
      refine ⟨p, vs, rfl, hp, hl, s.sub ?_⟩
      refine q.perm ?_
      have e := sl_take hc a
      exact ((e.append_right tp).symm.append_left _).trans swapL
    · rename_i ys hc
      have e : true = t ∧ ys = xs ∧ ς = ς' := by simpa using h
      obtain ⟨rfl, rfl, rfl⟩ := e
      obtain ⟨v', hv, q⟩ := s.slot hc
      rw [a] at hv; cases hv
      obtain ⟨p, vs, rfl, hp, hl, q⟩ := q.itemsTN
      refine ⟨p, vs, rfl, hp, hl, s.sub ?_⟩
      refine q.perm ?_
      have e := sl_take hc a
      exact ((e.append_right tp).symm.append_left _).trans swapL
    · cases h
  · cases h
/-- a new list of known items -/
theorem SR.newL {vs : List V} {xs : List PyData} (s : SR K H σ ς (vs.zip (xs.map .d) ++ tp)) (hl : vs.length = xs.length) {p : Addr} (hp : H p = none) : SR K (upd H p (.lst vs)) σ ς ((.ref p, .own (xs.map .d)) :: tp) := by
  have q : SP K H (vs.zip (xs.map U.d) ++ (sl σ ς ++ tp)) := s.sp.perm swapL
  exact s.of_ahead (q.newOwn (by simpa using hl) hp)
theorem SR.newT {vs : List V} {xs : List PyData} (s : SR K H σ ς (vs.zip (xs.map .d) ++ tp)) (hl : vs.length = xs.length) {p : Addr} {ob : Obj} (ho : TupO ob) (hp : H p = none) : SR K (upd H p (.frz ob (.tup vs))) σ ς ((.ref p, .d (.tuple xs)) :: tp) := by
  have q : SP K H (vs.zip (xs.map U.d) ++ (sl σ ς ++ tp)) := s.sp.perm swapL
  exact s.of_ahead (q.newTup hl ho hp)
end
section
variable {X : Cx} {W : WX} {e a b : Expr} {es : List Expr} {pos : Pos} {f : Value} {k : List Rv → Env → Res Rv}
/-! ### list(x), tuple(x), sorted(x) -/
def kList (rs : List Rv) (ς : Env) : Res Rv := match rs with
  | [r] => match itemsD r ς with
    | some (_, xs, ς1) => .ok (.tm (.own (xs.map .d))) ς1
    | none => .stuck
  | _ => .stuck
theorem ca_list : CaK X W (.type "list") kList := by
  refine ⟨_, call_list_of, fun vs H rs σ ς tp Q s a o => ?_⟩
  unfold kList at o
  split at o
  · obtain ⟨v, rfl, s1, a1⟩ := ats1 s a
    split at o
    · rename_i t xs ς1 h
      obtain ⟨p, ws, rfl, hp, hl, s2⟩ := itemsD_ok s1 a1 h
      refine ⟨p, ws, rfl, ?_, fun l hf => o _ _ (s2.newL hl hf) trivial⟩
      cases t
      · exact .inl (LstN.seq hp)
      · exact .inr (TupN.seq hp)
    · exact o.elim
  · exact o.elim
def kTuple (rs : List Rv) (ς : Env) : Res Rv := match rs with
  | [r] => match r.peek ς with
    | some (.d (.tuple xs)) => .ok (.tm (.d (.tuple xs))) ς
    | _ => match itemsD r ς with
      | some (false, xs, ς1) => .ok (.tm (.d (.tuple xs))) ς1
      | _ => .stuck
  | _ => .stuck
theorem share_of {r : Rv} {ς : Env} {x : PyData} (h : r.peek ς = some (.d x)) : r.share ς = some (.d x, ς) := by
  cases r with
  | tm u => have e : u = .d x := by simpa [Rv.peek] using h
            subst e; rfl
  | pl i =>
    cases hc : ς[i]? with
    | none => simp [Rv.peek, hc] at h
    | some o => cases o with
      | none => simp [Rv.peek, hc] at h
      | some u =>
        have e : u = .d x := by simpa [Rv.peek, hc] using h
        subst e
        simp [Rv.share, hc, U.sh]
theorem ca_tuple : CaK X W (.type "tuple") kTuple := by
  refine ⟨_, call_tupleF, fun vs H rs σ ς tp Q s a o => ?_⟩
  unfold kTuple at o
  split at o
  · obtain ⟨v, rfl, s1, a1⟩ := ats1 s a
    split at o
    · rename_i xs h
      have s2 := share_ok s1 a1 (share_of h)
      obtain ⟨p, ws, rfl, hp, hl, _⟩ := (SR.ahead s2).itemsT
      exact ⟨p, ws, rfl, .inr ⟨hp, o _ _ s2 trivial⟩⟩
    · split at o
      · rename_i xs ς1 h
        obtain ⟨p, ws, rfl, hp, hl, s2⟩ := itemsD_ok s1 a1 h
        exact ⟨p, ws, rfl, .inl ⟨LstN.seq hp, fun l ob hf ho => o _ _ (s2.newT hl ho hf) trivial⟩⟩
      · exact o.elim
  · exact o.elim
/-! sorted -/
def alAll (xs : List PyData) : Bool := xs.all fun x => xs.all fun y => alike x y
def srt1 : PyData → Bool
  | .tuple (_ :: _) => true
  | _ => false
def srt2 : PyData → Bool
  | .none => false
  | .tuple _ => false
  | _ => true
def srtOk (xs : List PyData) : Bool := alAll xs && (xs.all srt1 || xs.all srt2) && xs.all (lev 8)
def sortD (xs : List PyData) : List PyData := xs.mergeSort (dataLe false fun x => x)
theorem alAll_ok {xs : List PyData} (h : alAll xs = true) : AllAlike xs := fun d hd d' hd' => by
  unfold alAll at h
  rw [List.all_eq_true] at h
  have h1 := h d hd
  rw [List.all_eq_true] at h1
  exact h1 d' hd'
theorem srt_ok {xs : List PyData} (h : (xs.all srt1 || xs.all srt2) = true) : Sortable xs := by
  rw [Bool.or_eq_true] at h
  rcases h with h | h
  · refine .inl fun d hd => ?_
    rw [List.all_eq_true] at h
    have := h d hd
    unfold srt1 at this
    split at this
    · exact ⟨_, _, rfl⟩
    · cases this
  · refine .inr fun d hd => ?_
    rw [List.all_eq_true] at h
    have := h d hd
    unfold srt2 at this
    split at this
    · cases this
    · cases this
    · rename_i h1 h2
      exact ⟨h1, fun xs e => h2 xs e⟩
def rSortD (K : PySem.W.Frag) : List V → Hp → VK → Prop := fun vs H Q => ∃ (p : Addr) (zs : List (V × PyData)), vs = [.ref p] ∧ SqL K H p (zs.map (·.1)) ∧ DpAll K H (zs.map (·.1)) (zs.map (·.2)) ∧ srtOk (zs.map (·.2)) = true ∧
  ∀ l, H l = none → Q (.ref l) (upd H l (.lst ((zs.mergeSort (dataLe false (·.2))).map (·.1))))
theorem each_of {s : Shared} {pins : List (Addr × Obj)} {σ : L2.St} {H : Hp} (I : Inv X pins σ H s) : ∀ {zs : List (V × PyData)} {us : List Value}, Vals (zs.map (·.1)) us → DpAll X.K H (zs.map (·.1)) (zs.map (·.2)) →
    EachIs (fun u z => RelV z.1 u) us zs ∧ EachIs (fun u z => ∃ as, Reads s.heap u z.2 as) us zs
  | [], _, r, _ => by cases r; exact ⟨.nil, .nil⟩
  | z :: zs, _, r, d => by
    cases r with
    | cons r1 r2 =>
      cases d with
      | cons d1 d2 =>
        obtain ⟨i1, i2⟩ := each_of I r2 d2
        obtain ⟨as, rd⟩ := Dp.reads I z.2 z.1 _ d1 r1
        exact ⟨.cons r1 i1, .cons ⟨as, rd⟩ i2⟩
theorem each_vals : ∀ {zs : List (V × PyData)} {us : List Value}, EachIs (fun u z => RelV z.1 u) us zs → Vals (zs.map (·.1)) us
  | _, _, .nil => .nil
  | _, _, .cons a b => .cons a (each_vals b)
theorem dp_mem {K : PySem.W.Frag} {H : Hp} {z : V × PyData} : ∀ {zs : List (V × PyData)}, DpAll K H (zs.map (·.1)) (zs.map (·.2)) → z ∈ zs → ∃ v, Dp K H v z.2
  | [], _, h => by cases h
  | y :: ys, d, h => by
    cases d with
    | cons a b =>
      rcases List.mem_cons.mp h with e | h
      · subst e; exact ⟨_, a⟩
      · exact dp_mem b h
theorem cr_sortD (hu : X.A.units + 64 < cLine) : CallR X (.builtin "sorted") (rSortD X.K) := by
  intro pins s σ H vs us Q I r ⟨p, zs, e, hs, hd, ho, q⟩
  subst e
  obtain ⟨its, rv, hl, hz⟩ := I.list hs
  rw [Vals.ref1 r]
  obtain ⟨e1, e2⟩ := each_of I rv hd
  unfold srtOk at ho
  rw [Bool.and_eq_true, Bool.and_eq_true] at ho
  obtain ⟨⟨h1, h2⟩, h3⟩ := ho
  rw [List.all_eq_true] at h3
  refine sorted_data (enc := fun z : V × PyData => z.2) hl.isList e1 e2 (alAll_ok h1) (srt_ok h2) (by simpa using hz) (fun z hz' => ?_) fun out hlen eo => ?_
  · have hm : z.2 ∈ zs.map (·.2) := List.mem_map_of_mem hz'
    have hlev := h3 z.2 hm
    have hdp : ∃ v, Dp X.K H v z.2 := by
      exact dp_mem hd hz'
    obtain ⟨v, hv⟩ := hdp
    have := dp_depth hv hlev
    omega
  · obtain ⟨ep, he'⟩ := PyProof.Rows.sortedAll_at s.heap its out.toArray
    have ro := each_vals eo
    have hn : ((zs.mergeSort (dataLe false (·.2))).map (·.1)).length ≤ sizeLine := by simpa using hz
    exact ⟨.ref _, upd H (s.heap.objs.size + 1) (.lst ((zs.mergeSort (dataLe false (·.2))).map (·.1))), I.laid (t' := s.toks) (fun _ _ => PyProof.Rows.sortedAll_old) (Nat.le_succ _)
      ⟨hn, out, ep, ro, by simpa using he'⟩, rfl, q _ (I.hok.fresh (Nat.le_succ _))⟩
def kSorted (rs : List Rv) (ς : Env) : Res Rv := match rs with
  | [r] => match itemsD r ς with
    | some (false, xs, ς1) => if srtOk xs then .ok (.tm (.own ((sortD xs).map .d))) ς1 else .stuck
    | _ => .stuck
  | _ => .stuck
theorem zip_map1 {α β : Type} : ∀ {xs : List α} {ys : List β}, xs.length = ys.length → (xs.zip ys).map (·.1) = xs ∧ (xs.zip ys).map (·.2) = ys
  | [], [], _ => ⟨rfl, rfl⟩
  | x :: xs, y :: ys, h => by
    obtain ⟨a, b⟩ := zip_map1 (xs := xs) (ys := ys) (by simpa using h)
    constructor
    · show x :: (xs.zip ys).map (·.1) = _; rw [a]
    · show y :: (xs.zip ys).map (·.2) = _; rw [b]
theorem dpAll_of {K : PySem.W.Frag} {H : Hp} {ps : PL} : ∀ {xs : List PyData} {vs : List V}, vs.length = xs.length → SP K H (vs.zip (xs.map .d) ++ ps) → DpAll K H vs xs
  | [], [], _, _ => .nil
  | x :: xs, v :: vs, h, s => .cons (SP.peek (ps := vs.zip (xs.map U.d) ++ ps) s rfl) (dpAll_of (ps := ps) (by simpa using h) (SP.tail (ps := vs.zip (xs.map U.d) ++ ps) s))
theorem ca_sorted (hu : X.A.units + 64 < cLine) : CaK X W (.builtin "sorted") kSorted := by
  refine ⟨_, cr_sortD hu, fun vs H rs σ ς tp Q s a o => ?_⟩
  unfold kSorted at o
  split at o
  · obtain ⟨v, rfl, s1, a1⟩ := ats1 s a
    split at o
    · rename_i xs ς1 h
      obtain ⟨p, ws, rfl, hp, hl, s2⟩ := itemsD_ok s1 a1 h
      split at o
      · rename_i ho
        obtain ⟨z1, z2⟩ := zip_map1 hl
        refine ⟨p, ws.zip xs, rfl, by rw [z1]; exact LstN.seq hp, ?_, by rw [z2]; exact ho, fun l hf => ?_⟩
        · rw [z1, z2]
          exact dpAll_of hl (s2.sp.perm swapL)
        · refine o _ _ ?_ trivial
          have e : sortD xs = ((ws.zip xs).mergeSort (dataLe false (·.2))).map (·.2) := by
            unfold sortD
            rw [List.map_mergeSort (r := dataLe false fun z : V × PyData => z.2) (s := dataLe false fun x => x) (f := (·.2)), z2]
            intros; rfl
          rw [e]
          refine SR.newL ?_ (by simp) hf
          refine s2.perm (List.Perm.append_right _ ?_)
          have pz : ∀ (zs : List (V × PyData)), (zs.map (·.1)).zip ((zs.map (·.2)).map U.d) = zs.map fun z => (z.1, U.d z.2) := fun zs => by
            induction zs with
            | nil => rfl
            | cons z zs ih => simp only [List.map_cons, List.zip_cons_cons, ih]
          rw [pz]
          have e3 : ws.zip (xs.map U.d) = (ws.zip xs).map fun z => (z.1, U.d z.2) := by
            rw [← pz, z1, z2]
          rw [e3]
          exact ((List.mergeSort_perm _ _).map _).symm
      · exact o.elim
    · exact o.elim
  · exact o.elim
end
end Vm
end
section
set_option Elab.async false
set_option linter.all false
set_option maxRecDepth 100000
namespace Vm
open PySem L2 PySem.W

section
variable {X : Cx} {W : WX} {e a b : Expr} {es : List Expr} {pos : Pos} {f : Value} {k : List Rv → Env → Res Rv}
/-! ### any, all -/
def fit63 : PyData → Bool
  | .str x => decide (x.length ≤ 1000000000)
  | .list xs => decide (xs.length ≤ 1000000000)
  | .tuple xs => decide (xs.length ≤ 1000000000)
  | _ => true
theorem le63 {n : Nat} (h : n ≤ 1000000000) : (n : Int) < 2 ^ 63 := by
  have e : (2 : Int) ^ 63 = 9223372036854775808 := by decide +kernel
  rw [e]; omega
theorem fit63_ok {d : PyData} (h : fit63 d = true) : d.fits63 := by
  cases d with
  | str x => exact le63 (of_decide_eq_true h)
  | list x => exact le63 (of_decide_eq_true h)
  | tuple x => exact le63 (of_decide_eq_true h)
  | _ => exact trivial
def fAll (d : PyData) : Option PyData := match itemsOf d with
  | some xs => if xs.all fit63 then some (.bool (xs.all PyData.truthy)) else none
  | none => none
def fAny (d : PyData) : Option PyData := match itemsOf d with
  | some xs => if xs.all fit63 then some (.bool (xs.any PyData.truthy)) else none
  | none => none
theorem cr_all (hc : X.calm = true) : CallR X (.builtin "all") (rDatS X.K fAll) := by
  intro pins s σ H xs us Q I r ⟨v, d, c, e, hd, hf, q⟩
  subst e
  obtain ⟨u, rfl, ru⟩ := vals1 r
  have hp := dp_plain d v hd
  unfold fAll at hf
  cases d with
  | list ys =>
    obtain ⟨a, ws, rfl, hs, hw⟩ := dp_lst hd
    obtain ⟨its, rv, hl, hz⟩ := I.list hs
    obtain ⟨as, rd⟩ := Dp.readsAll I ys ws its hw rv
    cases ru
    simp only [itemsOf] at hf
    split at hf
    · rename_i hfit
      rw [List.all_eq_true] at hfit
      rw [PyData.plain] at hp
      exact all_list_data (I.ok.hd hc) hl.isList (by simpa using rd) hp (fun x hx => fit63_ok (hfit x hx)) fun h' tk k => ⟨.bl _, H, I.kept k, rfl, q _ (by rw [← Option.some.inj hf]; rfl)⟩
    · cases hf
  | tuple ys =>
    obtain ⟨a, ws, rfl, hs, hw⟩ := dp_tup hd
    obtain ⟨its, rv, hl, hz⟩ := I.tuple hs
    obtain ⟨as, rd⟩ := Dp.readsAll I ys ws its hw rv
    cases ru
    simp only [itemsOf] at hf
    split at hf
    · rename_i hfit
      rw [List.all_eq_true] at hfit
      rw [PyData.plain] at hp
      exact all_tuple_data (I.ok.hd hc) (show s.heap.IsTuple a its.toArray from hl) (by simpa using rd) hp (fun x hx => fit63_ok (hfit x hx)) fun h' tk k => ⟨.bl _, H, I.kept k, rfl, q _ (by rw [← Option.some.inj hf]; rfl)⟩
    · cases hf
  | _ => simp [itemsOf] at hf
theorem cr_any (hc : X.calm = true) : CallR X (.builtin "any") (rDatS X.K fAny) := by
  intro pins s σ H xs us Q I r ⟨v, d, c, e, hd, hf, q⟩
  subst e
  obtain ⟨u, rfl, ru⟩ := vals1 r
  have hp := dp_plain d v hd
  unfold fAny at hf
  cases d with
  | list ys =>
    obtain ⟨a, ws, rfl, hs, hw⟩ := dp_lst hd
    obtain ⟨its, rv, hl, hz⟩ := I.list hs
    obtain ⟨as, rd⟩ := Dp.readsAll I ys ws its hw rv
    cases ru
    simp only [itemsOf] at hf
    split at hf
    · rename_i hfit
      rw [List.all_eq_true] at hfit
      rw [PyData.plain] at hp
      exact any_list_data (I.ok.hd hc) hl.isList (by simpa using rd) hp (fun x hx => fit63_ok (hfit x hx)) fun h' tk k => ⟨.bl _, H, I.kept k, rfl, q _ (by rw [← Option.some.inj hf]; rfl)⟩
    · cases hf
  | tuple ys =>
    obtain ⟨a, ws, rfl, hs, hw⟩ := dp_tup hd
    obtain ⟨its, rv, hl, hz⟩ := I.tuple hs
    obtain ⟨as, rd⟩ := Dp.readsAll I ys ws its hw rv
    cases ru
    simp only [itemsOf] at hf
    split at hf
    · rename_i hfit
      rw [List.all_eq_true] at hfit
      rw [PyData.plain] at hp
      exact any_tuple_data (I.ok.hd hc) (show s.heap.IsTuple a its.toArray from hl) (by simpa using rd) hp (fun x hx => fit63_ok (hfit x hx)) fun h' tk k => ⟨.bl _, H, I.kept k, rfl, q _ (by rw [← Option.some.inj hf]; rfl)⟩
    · cases hf
  | _ => simp [itemsOf] at hf
def k1D (g : PyData → Option PyData) := kScA fun ds => match ds with
    | [d] => g d
    | _ => none
theorem ca_all (hc : X.calm = true) : CaK X W (.builtin "all") (k1D fAll) := cak_datS (cr_all hc)
theorem ca_any (hc : X.calm = true) : CaK X W (.builtin "any") (k1D fAny) := cak_datS (cr_any hc)

/-! ### sum of ints -/
def intsOf : List PyData → Option (List Int)
  | [] => some []
  | .int i :: xs => (intsOf xs).map (i :: ·)
  | _ => none
theorem intsOf_ok {K : PySem.W.Frag} {H : Hp} : ∀ {xs : List PyData} {ns : List Int} {vs : List V}, intsOf xs = some ns → DpAll K H vs xs → vs = ns.map V.int
  | [], ns, vs, h, d => by
    have e : [] = ns := by simpa [intsOf] using h
    subst e; cases d; rfl
  | .int i :: xs, ns, vs, h, d => by
    unfold intsOf at h
    obtain ⟨ms, h1, h2⟩ := Option.map_eq_some_iff.mp h
    subst h2
    cases d with
    | cons a b => cases a; rw [intsOf_ok h1 b]; rfl
  | .none :: _, _, _, h, _ => by simp [intsOf] at h
  | .bool _ :: _, _, _, h, _ => by simp [intsOf] at h
  | .str _ :: _, _, _, h, _ => by simp [intsOf] at h
  | .list _ :: _, _, _, h, _ => by simp [intsOf] at h
  | .tuple _ :: _, _, _, h, _ => by simp [intsOf] at h
  | .dict _ :: _, _, _, h, _ => by simp [intsOf] at h
def fSum (d : PyData) : Option PyData := match itemsOf d with
  | some xs => (intsOf xs).map fun ns => .int ns.sum
  | none => none
theorem cr_sum (hc : X.calm = true) : CallR X (.builtin "sum") (rDatS X.K fSum) := by
  intro pins s σ H xs us Q I r ⟨v, d, c, e, hd, hf, q⟩
  subst e
  obtain ⟨u, rfl, ru⟩ := vals1 r
  unfold fSum at hf
  cases d with
  | list ys =>
    obtain ⟨a, ws, rfl, hs, hw⟩ := dp_lst hd
    obtain ⟨its, rv, hl, hz⟩ := I.list hs
    cases ru
    simp only [itemsOf] at hf
    obtain ⟨ns, h1, h2⟩ := Option.map_eq_some_iff.mp hf
    have e := intsOf_ok h1 hw
    subst e
    exact sum_raw (I.ok.hd hc) hl.isList rv.ints fun h' tk t' k => ⟨.int _, H, I.kept k, ⟨_, rfl⟩, q _ (by rw [← h2]; rfl)⟩
  | tuple ys =>
    obtain ⟨a, ws, rfl, hs, hw⟩ := dp_tup hd
    obtain ⟨its, rv, hl, hz⟩ := I.tuple hs
    cases ru
    simp only [itemsOf] at hf
    obtain ⟨ns, h1, h2⟩ := Option.map_eq_some_iff.mp hf
    have e := intsOf_ok h1 hw
    subst e
    have hi := rv.ints
    obtain ⟨zs, e⟩ := hi.allInts.items
    have hn : numsOf (intItems zs).toList = ns := by rw [← e]; exact hi.numsOf
    rw [nums_intItems] at hn
    have ht : s.heap.IsTuple a its.toArray := hl
    rw [e] at ht
    refine ktm_sumG (I.ok.hd hc) ht fun h' tk t' k => ⟨.int _, H, I.kept k, ⟨_, rfl⟩, q _ ?_⟩
    rw [← h2, preSum_eq, List.take_of_length_le (by simp), hn]
    rfl
  | _ => simp [itemsOf] at hf
theorem ca_sum (hc : X.calm = true) : CaK X W (.builtin "sum") (k1D fSum) := cak_datS (cr_sum hc)

/-! ### divmod -/
def kDivmod (rs : List Rv) (ς : Env) : Res Rv := match peeks ς rs with
  | some [.int i, .int j] => if 0 < j ∧ j < 1073741824 then .ok (.tm (.d (.tuple [.int (i / j), .int (i % j)]))) ς else .stuck
  | _ => .stuck
theorem ca_divmod : CaK X W (.builtin "divmod") kDivmod := by
  refine ⟨_, call_divmodF, fun vs H rs σ ς tp Q s a o => ?_⟩
  unfold kDivmod at o
  split at o
  · rename_i i j hp
    obtain ⟨v, w, rfl, h, g⟩ := dpAll2 (peeks_ok s a hp)
    split at o
    · rename_i hj
      refine ⟨i, j, by rw [dp_int h, dp_int g], hj, fun p ob hf ho => o _ _ ?_ trivial⟩
      have s0 : SR X.K H σ ς tp := s.dropL
      have s1 : SR X.K H σ ς ((V.int (i / j), U.d (.int (i / j))) :: (V.int (i % j), U.d (.int (i % j))) :: tp) := (s0.putD (x := .int (i % j)) rfl).putD (x := .int (i / j)) rfl
      exact SR.newT (vs := [V.int (i / j), V.int (i % j)]) (xs := [.int (i / j), .int (i % j)]) s1 rfl ho hf
    · exact o.elim
  · exact o.elim
/-! ### max, min of a list or a tuple -/
def noNone : PyData → Bool
  | .none => false
  | _ => true
def bestOk (xs : List PyData) : Bool := alAll xs && xs.all noNone && xs.all (lev 8)
theorem best_al {xs : List PyData} (h : bestOk xs = true) : AlikeAll xs := by
  unfold bestOk at h
  rw [Bool.and_eq_true, Bool.and_eq_true] at h
  refine ⟨alAll_ok h.1.1, fun x hx e => ?_⟩
  have h2 := h.1.2
  rw [List.all_eq_true] at h2
  have := h2 x hx
  subst e
  cases this
theorem best_lev {xs : List PyData} (h : bestOk xs = true) : xs.all (lev 8) = true := by
  unfold bestOk at h
  rw [Bool.and_eq_true] at h
  exact h.2
def rBest (mx : Bool) (K : PySem.W.Frag) : List V → Hp → VK → Prop := fun vs H Q => ∃ (t : Bool) (p : Addr) (ws : List V) (x : PyData) (xs : List PyData), vs = [.ref p] ∧ SqX K t H p ws ∧ DpAll K H ws (x :: xs) ∧ bestOk (x :: xs) = true ∧
  ∀ (i : Nat) (v : V), ws[i]? = some v → (x :: xs)[i]? = some (if mx then maxD x xs else minD x xs) → Q v H
theorem dpAll_get {K : PySem.W.Frag} {H : Hp} : ∀ {vs : List V} {xs : List PyData} {i : Nat} {v : V}, DpAll K H vs xs → vs[i]? = some v → ∃ x, xs[i]? = some x ∧ Dp K H v x
  | _, _, _, _, .nil, h => by simp at h
  | _, _, 0, _, .cons a _, h => by simp at h; subst h; exact ⟨_, rfl, a⟩
  | _, _, i + 1, _, .cons _ b, h => dpAll_get (i := i) b (by simpa using h)
theorem depthAll_of {K : PySem.W.Frag} {H : Hp} : ∀ {xs : List PyData} {vs : List V}, DpAll K H vs xs → xs.all (lev 8) = true → PyData.depthAll xs ≤ 8
  | [], _, _, _ => by simp [PyData.depthAll]
  | x :: xs, _, .cons a b, h => by
    rw [List.all_cons, Bool.and_eq_true] at h
    have h1 := dp_depth a h.1
    have h2 := depthAll_of b h.2
    rw [PyData.depthAll]
    omega
theorem vals_get {vs : List V} {us : List Value} {i : Nat} {u : Value} (r : Vals vs us) (h : us[i]? = some u) : ∃ v, vs[i]? = some v ∧ RelV v u := by
  have hi : i < us.length := (List.getElem?_eq_some_iff.mp h).1
  have hl := r.length
  have hv : vs[i]? = some (vs[i]'(by omega)) := by simp [show i < vs.length by omega]
  obtain ⟨u', h', ru⟩ := r.get hv
  rw [h] at h'
  have e := Option.some.inj h'
  subst e
  exact ⟨_, hv, ru⟩
theorem best_end {pins : List (Addr × Obj)} {s : Shared} {σ : L2.St} {H : Hp} {Q : VK} (I : Inv X pins σ H s) {ws : List V} {its : List Value} {ds : List PyData} {d : PyData} (rv : Vals ws its) (hw : DpAll X.K H ws ds)
    (q : ∀ (i : Nat) (v : V), ws[i]? = some v → ds[i]? = some d → Q v H) (i : Nat) (u : Value) (h' : Heap) (tk : Nat) (bs : List Addr) (hi : its.toArray[i]? = some u) (rd : Reads h' u d bs) (k : ∀ b o, s.heap.get? b = some o → h'.get? b = some o) :
    EP X pins σ Q u { s with heap := h', toks := tk } := by
  have hi' : its[i]? = some u := by simpa using hi
  obtain ⟨v, hv, ru⟩ := vals_get rv hi'
  obtain ⟨x, hx, dx⟩ := dpAll_get hw hv
  have I' : Inv X pins σ H { s with heap := h', toks := tk } := I.kept k
  obtain ⟨as, rx⟩ := Dp.reads I' x v u dx ru
  have e : d = x := (Reads.unique rd x as rx).1
  subst e
  exact ⟨v, H, I', ru, q i v hv hx⟩
theorem cr_max (hc : X.calm = true) (hu : X.A.units + 64 < cLine) : CallR X (.builtin "max") (rBest true X.K) := by
  intro pins s σ H xs us Q I r ⟨t, p, ws, x, xs', e, hs, hw, ha, q⟩
  subst e
  obtain ⟨u, rfl, ru⟩ := vals1 r
  cases ru
  have hd := depthAll_of hw (best_lev ha)
  cases t with
  | false =>
    obtain ⟨its, rv, hl, hz⟩ := I.list (LstN.seq hs)
    obtain ⟨as, rd⟩ := Dp.readsAll I _ ws its hw rv
    exact max_list_data (I.ok.hd hc) hl.isList (by simpa using rd) (best_al ha) (by omega) fun i v h' tk bs hv rr k => best_end I rv hw q i v h' tk bs hv rr k
  | true =>
    obtain ⟨its, rv, hl, hz⟩ := I.tuple (TupN.seq hs)
    obtain ⟨as, rd⟩ := Dp.readsAll I _ ws its hw rv
    exact max_tuple_data (I.ok.hd hc) (show s.heap.IsTuple p its.toArray from hl) (by simpa using rd) (best_al ha) (by omega) fun i v h' tk bs hv rr k => best_end I rv hw q i v h' tk bs hv rr k
theorem cr_min (hc : X.calm = true) (hu : X.A.units + 64 < cLine) : CallR X (.builtin "min") (rBest false X.K) := by
  intro pins s σ H xs us Q I r ⟨t, p, ws, x, xs', e, hs, hw, ha, q⟩
  subst e
  obtain ⟨u, rfl, ru⟩ := vals1 r
  cases ru
  have hd := depthAll_of hw (best_lev ha)
  cases t with
  | false =>
    obtain ⟨its, rv, hl, hz⟩ := I.list (LstN.seq hs)
    obtain ⟨as, rd⟩ := Dp.readsAll I _ ws its hw rv
    exact min_list_data (I.ok.hd hc) hl.isList (by simpa using rd) (best_al ha) (by omega) fun i v h' tk bs hv rr k => best_end I rv hw q i v h' tk bs hv rr k
  | true =>
    obtain ⟨its, rv, hl, hz⟩ := I.tuple (TupN.seq hs)
    obtain ⟨as, rd⟩ := Dp.readsAll I _ ws its hw rv
    exact min_tuple_data (I.ok.hd hc) (show s.heap.IsTuple p its.toArray from hl) (by simpa using rd) (best_al ha) (by omega) fun i v h' tk bs hv rr k => best_end I rv hw q i v h' tk bs hv rr k
def kBest (mx : Bool) (rs : List Rv) (ς : Env) : Res Rv := match rs with
  | [r] => match itemsD r ς with
    | some (_, x :: xs, ς1) => if bestOk (x :: xs) then .ok (.tm (.d (if mx then maxD x xs else minD x xs))) ς1 else .stuck
    | _ => .stuck
  | _ => .stuck
theorem best_k {mx : Bool} {vs : List V} {H : Hp} {rs : List Rv} {σ : L2.St} {ς : Env} {tp : PL} {Q : VK} (s : SR X.K H σ ς (tmps rs vs ++ tp)) (a : ats σ rs vs) (o : OutE X.K W σ tp Q (kBest mx rs ς)) : rBest mx X.K vs H Q := by
  unfold kBest at o
  split at o
  · obtain ⟨v, rfl, s1, a1⟩ := ats1 s a
    split at o
    · rename_i t x xs ς1 h
      obtain ⟨p, ws, rfl, hp, hl, s2⟩ := itemsD_ok s1 a1 h
      split at o
      · rename_i hc
        refine ⟨t, p, ws, x, xs, rfl, hp, dpAll_of hl (s2.sp.perm swapL), hc, fun i v hv hx => o v H ?_ trivial⟩
        have hz : (ws.zip ((x :: xs).map U.d))[i]? = some (v, U.d (if mx then maxD x xs else minD x xs)) := by
          rw [List.getElem?_zip_eq_some]
          refine ⟨hv, ?_⟩
          rw [List.getElem?_map, hx]; rfl
        obtain ⟨as, bs, e⟩ := List.append_of_mem (List.mem_of_getElem? hz)
        rw [e] at s2
        have e2 : (as ++ (v, U.d (if mx then maxD x xs else minD x xs)) :: bs ++ tp).Perm ((as ++ bs) ++ ((v, U.d (if mx then maxD x xs else minD x xs)) :: tp)) := (front.append_right tp).trans front.symm
        exact (s2.perm e2).dropL
      · exact o.elim
    · exact o.elim
  · exact o.elim
theorem ca_max (hc : X.calm = true) (hu : X.A.units + 64 < cLine) : CaK X W (.builtin "max") (kBest true) := ⟨_, cr_max hc hu, fun _ _ _ _ _ _ _ s a o => best_k s a o⟩
theorem ca_min (hc : X.calm = true) (hu : X.A.units + 64 < cLine) : CaK X W (.builtin "min") (kBest false) := ⟨_, cr_min hc hu, fun _ _ _ _ _ _ _ s a o => best_k s a o⟩
end
end Vm
end
section
set_option Elab.async false
set_option linter.all false
set_option maxRecDepth 100000
namespace Vm
open PySem L2 PySem.W

theorem set_at {α : Type} : ∀ {l : List α} {j : Nat} {u : α}, l[j]? = some u → l.set j u = l
  | [], _, _, h => by simp at h
  | a :: l, 0, u, h => by simp at h; subst h; rfl
  | a :: l, j + 1, u, h => by simp [set_at (l := l) (j := j) (u := u) (by simpa using h)]
section
variable {K : PySem.W.Frag} {H H' : Hp} {σ : L2.St} {ς ς' : Env} {tp tq : PL}
/-! ### x[i] -/
theorem subl_perm {α : Type} {l m : List α} (h : l.Sublist m) : ∃ r, m.Perm (l ++ r) := by
  induction h with
  | slnil => exact ⟨[], .refl _⟩
  | cons a _ ih => obtain ⟨r, e⟩ := ih; exact ⟨a :: r, (e.cons a).trans List.perm_middle.symm⟩
  | cons_cons a _ ih => obtain ⟨r, e⟩ := ih; exact ⟨r, e.cons a⟩
theorem SP.subl {ps qs : PL} (s : SP K H ps) (h : qs.Sublist ps) : SP K H qs := by
  obtain ⟨r, e⟩ := subl_perm h
  exact (s.perm e).dropR
theorem atI_get {α : Type} {xs : List α} {i : Int} {x : α} (h : atI xs i = some x) : ∃ j, ixN xs.length i = some j ∧ xs[j]? = some x := by
  unfold atI at h
  cases hj : ixN xs.length i with
  | none => rw [hj] at h; cases h
  | some j => rw [hj] at h; exact ⟨j, rfl, h⟩
theorem atI_of {α : Type} {xs : List α} {i : Int} {j : Nat} {x : α} (h : ixN xs.length i = some j) (g : xs[j]? = some x) : atI xs i = some x := by
  unfold atI; rw [h]; exact g
theorem zip_at {vs : List V} {us : List U} {j : Nat} {u : U} (hl : vs.length = us.length) (h : us[j]? = some u) : ∃ v, vs[j]? = some v ∧ ∃ as bs, vs.zip us = as ++ (v, u) :: bs := by
  have hj : j < us.length := (List.getElem?_eq_some_iff.mp h).1
  have hv : vs[j]? = some (vs[j]'(by omega)) := by simp [show j < vs.length by omega]
  exact ⟨_, hv, zip_get hv h⟩
/-- a list's or a tuple's item -/
def kIx1 (ra : Rv) (i : Int) (ς : Env) : Res Rv := match ra with
  | .tm (.own us) => match atI us i with
    | some u => .ok (.tm u) ς
    | none => .stuck
  | .tm (.d (.list xs)) => match atI xs i with
    | some x => .ok (.tm (.d x)) ς
    | none => .stuck
  | .tm (.d (.tuple xs)) => match atI xs i with
    | some x => .ok (.tm (.d x)) ς
    | none => .stuck
  | .pl s => match ς[s]? with
    | some (some (.own us)) => match ixN us.length i with
      | some j => match us[j]? with
        | some u => if u.sh then .ok (.tm u) ς else match u.toD with
          | some x => .ok (.tm (.d x)) (ς.set s (some (.own (us.set j (.d x)))))
          | none => .stuck
        | none => .stuck
      | none => .stuck
    | some (some (.d (.list xs))) => match atI xs i with
      | some x => .ok (.tm (.d x)) ς
      | none => .stuck
    | some (some (.d (.tuple xs))) => match atI xs i with
      | some x => .ok (.tm (.d x)) ς
      | none => .stuck
    | _ => .stuck
  | _ => .stuck
def rIx1 (K : PySem.W.Frag) : R2 := fun x y H Q => rIxL K x y H Q ∨ rIxT K x y H Q
theorem dup_item {v : V} {x : PyData} {as bs ps : PL} {w : V} {c : U} (s : SP K H ((as ++ (v, U.d x) :: bs) ++ (w, c) :: ps)) : SP K H ((v, U.d x) :: ps) := by
  have e : ((as ++ (v, U.d x) :: bs) ++ (w, c) :: ps).Perm ((as ++ bs ++ [(w, c)]) ++ ((v, U.d x) :: ps)) := by
    have e1 : (as ++ (v, U.d x) :: bs).Perm ((as ++ bs) ++ [(v, U.d x)]) := front.trans (List.perm_append_singleton _ _).symm
    have e2 := e1.append_right ((w, c) :: ps)
    refine e2.trans ?_
    have e3 : ([(v, U.d x)] ++ (w, c) :: ps).Perm ([(w, c)] ++ (v, U.d x) :: ps) := List.Perm.swap _ _ _
    have e4 := e3.append_left (as ++ bs)
    simpa [List.append_assoc] using e4
  exact (s.perm e).dropL
theorem data_item {W : WX} {Q : VK} {a : V} {t : Bool} {xs : List PyData} {i : Int} {x : PyData} (s : SR K H σ ς ((a, .d (if t then .tuple xs else .list xs)) :: tp)) (h : atI xs i = some x)
    (o : OutE K W σ tp Q (.ok (.tm (.d x)) ς)) : rIx1 K a (.int i) H Q := by
  obtain ⟨j, hj, hx⟩ := atI_get h
  cases t with
  | true =>
    obtain ⟨p, vs, rfl, hp, hl, q⟩ := (SR.ahead s).itemsT
    obtain ⟨v, hv, as, bs, e⟩ := zip_at (us := xs.map U.d) (u := U.d x) (by simpa using hl) (by rw [List.getElem?_map, hx]; rfl)
    refine .inr ⟨p, vs, i, v, rfl, rfl, hp, atI_of (by rw [hl]; exact hj) hv, o _ _ (s.of_ahead (p := (v, .d x)) ?_) trivial⟩
    rw [e] at q
    exact dup_item q
  | false =>
    obtain ⟨p, vs, rfl, hp, hl, q⟩ := (SR.ahead s).itemsL
    obtain ⟨v, hv, as, bs, e⟩ := zip_at (us := xs.map U.d) (u := U.d x) (by simpa using hl) (by rw [List.getElem?_map, hx]; rfl)
    refine .inl ⟨p, vs, i, v, rfl, rfl, hp, atI_of (by rw [hl]; exact hj) hv, o _ _ (s.of_ahead (p := (v, .d x)) ?_) trivial⟩
    rw [e] at q
    exact dup_item q
theorem ix1_ok {W : WX} {Q : VK} {ra : Rv} {a : V} {i : Int} (s : SR K H σ ς (ra.tmp a ++ tp)) (a1 : ra.at σ a) (o : OutE K W σ tp Q (kIx1 ra i ς)) : rIx1 K a (.int i) H Q := by
  unfold kIx1 at o
  split at o
  · rename_i us
    split at o
    · rename_i u hu
      obtain ⟨j, hj, hx⟩ := atI_get hu
      obtain ⟨p, vs, rfl, hp, hl, q⟩ := (SR.ahead s).openL
      obtain ⟨v, hv, as, bs, e⟩ := zip_at hl hx
      refine .inl ⟨p, vs, i, v, rfl, rfl, .inl (.inl hp), atI_of (by rw [hl]; exact hj) hv, o _ _ (s.of_ahead (p := (v, u)) ?_) trivial⟩
      rw [e] at q
      have e2 : ((V.ref p, U.hole) :: (as ++ (v, u) :: bs ++ (sl σ ς ++ tp))).Perm (((V.ref p, U.hole) :: (as ++ bs)) ++ ((v, u) :: (sl σ ς ++ tp))) := by
        refine List.Perm.cons _ ?_
        exact (front.append_right _).trans front.symm
      exact (q.perm e2).dropL
    · exact o.elim
  · rename_i xs
    split at o
    · rename_i x hx
      exact data_item (t := false) s hx o
    · exact o.elim
  · rename_i xs
    split at o
    · rename_i x hx
      exact data_item (t := true) s hx o
    · exact o.elim
  · rename_i sl0
    have a1 : σ[sl0]? = some (some a) := a1
    have s : SR K H σ ς tp := s
    split at o
    · rename_i us hc
      split at o
      · rename_i j hj
        split at o
        · rename_i u hu
          obtain ⟨a', ha', q⟩ := s.slot hc
          rw [a1] at ha'; cases ha'
          obtain ⟨p, vs, rfl, hp, hl, q1⟩ := q.openL
          obtain ⟨v, hv, as, bs, e⟩ := zip_at hl hu
          have hv' : atI vs i = some v := atI_of (by rw [hl]; exact hj) hv
          split at o
          · rename_i hsh
            refine .inl ⟨p, vs, i, v, rfl, rfl, .inl (.inl hp), hv', o _ _ ?_ trivial⟩
            have q2 : SP K H ((v, u) :: (V.ref p, U.hole) :: (as ++ bs ++ (sl σ (ς.set sl0 none) ++ tp))) := by
              rw [e] at q1
              refine q1.perm ?_
              exact ((front.append_right _).cons _).trans (.swap _ _ _)
            have q3 := U.sh_dup q2 hsh
            have q4 : SP K H ((V.ref p, U.hole) :: (vs.zip us ++ ((v, u) :: (sl σ (ς.set sl0 none) ++ tp)))) := by
              rw [e]
              refine q3.perm ?_
              have e1 : ((v, u) :: (v, u) :: (V.ref p, U.hole) :: (as ++ bs ++ (sl σ (ς.set sl0 none) ++ tp))).Perm ((V.ref p, U.hole) :: (v, u) :: (v, u) :: (as ++ bs ++ (sl σ (ς.set sl0 none) ++ tp))) :=
                ((List.Perm.swap _ _ _).cons _).trans (.swap _ _ _)
              refine e1.trans (List.Perm.cons _ ?_)
              refine List.Perm.trans ?_ (List.Perm.append_right _ front.symm)
              exact (List.Perm.cons _ front.symm)
            have q5 := q4.shutL hl
            rw [upd_id hp] at q5
            refine s.of_ahead (q5.perm ?_)
            have e9 := sl_take hc a1
            have e10 : ((V.ref p, U.own us) :: (v, u) :: (sl σ (ς.set sl0 none) ++ tp)).Perm ((v, u) :: (V.ref p, U.own us) :: (sl σ (ς.set sl0 none) ++ tp)) := .swap _ _ _
            exact e10.trans ((e9.append_right tp).symm.cons _)
          · split at o
            · rename_i x hd
              refine .inl ⟨p, vs, i, v, rfl, rfl, .inl (.inl hp), hv', o _ _ ?_ trivial⟩
              have q2 : SP K H ((v, u) :: (V.ref p, U.hole) :: (as ++ bs ++ (sl σ (ς.set sl0 none) ++ tp))) := by
                rw [e] at q1
                refine q1.perm ?_
                exact ((front.append_right _).cons _).trans (.swap _ _ _)
              have q3 := (q2.freeze hd).dup
              have hset : ∃ as' bs', vs.zip (us.set j (.d x)) = as' ++ (v, U.d x) :: bs' ∧ (as' ++ bs').Perm (as ++ bs) := by
                have hju : j < us.length := (List.getElem?_eq_some_iff.mp hu).1
                have hjv : j < vs.length := by omega
                have ez : ∀ (vs : List V) (us : List U) (j : Nat) (v : V) (w : U), vs[j]? = some v → j < us.length → vs.zip (us.set j w) = (vs.zip us).take j ++ (v, w) :: (vs.zip us).drop (j + 1) := by
                  intro vs
                  induction vs with
                  | nil => intro us j v w h1 h2; simp at h1
                  | cons a vs ih =>
                    intro us j v w h1 h2
                    cases us with
                    | nil => simp at h2
                    | cons b us =>
                      cases j with
                      | zero => simp at h1; subst h1; rfl
                      | succ j =>
                        have := ih us j v w (by simpa using h1) (by simpa using h2)
                        simp [this]
                refine ⟨_, _, ez vs us j v (.d x) hv hju, ?_⟩
                have hz : vs.zip us = (vs.zip us).take j ++ (v, u) :: (vs.zip us).drop (j + 1) := by
                  have := ez vs us j v u hv hju
                  rwa [set_at hu] at this
                have p1 : ((v, u) :: ((vs.zip us).take j ++ (vs.zip us).drop (j + 1))).Perm ((v, u) :: (as ++ bs)) := by
                  refine List.Perm.trans front.symm (List.Perm.trans ?_ front)
                  rw [← hz, e]
                exact p1.cons_inv
              obtain ⟨as', bs', e', pe⟩ := hset
              have q4 : SP K H ((V.ref p, U.hole) :: (vs.zip (us.set j (.d x)) ++ ((v, U.d x) :: (sl σ (ς.set sl0 none) ++ tp)))) := by
                rw [e']
                refine q3.perm ?_
                have e1 : ((v, U.d x) :: (v, U.d x) :: (V.ref p, U.hole) :: (as ++ bs ++ (sl σ (ς.set sl0 none) ++ tp))).Perm ((V.ref p, U.hole) :: (v, U.d x) :: (v, U.d x) :: (as ++ bs ++ (sl σ (ς.set sl0 none) ++ tp))) :=
                  ((List.Perm.swap _ _ _).cons _).trans (.swap _ _ _)
                refine e1.trans (List.Perm.cons _ ?_)
                refine List.Perm.trans ?_ (List.Perm.append_right _ front.symm)
                refine (List.Perm.cons _ ((List.Perm.append_right _ pe.symm).cons _)).trans ?_
                exact (List.Perm.cons _ front.symm)
              have q5 := q4.shutL (by simpa using hl)
              rw [upd_id hp] at q5
              exact s.reslot hc a1 (q5.perm (List.Perm.cons _ front.symm))
            · exact o.elim
        · exact o.elim
      · exact o.elim
    · rename_i xs hc
      split at o
      · rename_i x hx
        have s2 : SR K H σ ς ((a, .d (.list xs)) :: tp) := share_ok (r := .pl sl0) (tp := tp) (u := .d (.list xs)) (ς' := ς) s a1 (by simp [Rv.share, hc, U.sh])
        exact data_item (t := false) s2 hx o
      · exact o.elim
    · rename_i xs hc
      split at o
      · rename_i x hx
        have s2 : SR K H σ ς ((a, .d (.tuple xs)) :: tp) := share_ok (r := .pl sl0) (tp := tp) (u := .d (.tuple xs)) (ς' := ς) s a1 (by simp [Rv.share, hc, U.sh])
        exact data_item (t := true) s2 hx o
      · exact o.elim
    · exact o.elim
  · exact o.elim
end
end Vm
end
section
set_option Elab.async false
set_option linter.all false
set_option maxRecDepth 100000
namespace Vm
open PySem L2 PySem.W

/-! ### slices: the parts -/
def OutO (K : PySem.W.Frag) (W : WX) (σ : L2.St) (tp : PL) (Q : Option Int → Hp → Prop) : Res (Option Int) → Prop
  | .ok b ς => ∀ H, SR K H σ ς tp → Q b H
  | .exc x ς => ∀ cls d H ps, SR K H σ ς (ps ++ tp) → ExR K H x cls d ps → W cls d σ H
  | .stuck => False
def LO (K : PySem.W.Frag) (W : WX) (m : Env → Res (Option Int)) : TO := fun σ H Q => ∃ ς tp, SR K H σ ς tp ∧ OutO K W σ tp Q (m ς)
def DO (X : Cx) (W : WX) (e : Option Expr) (m : Env → Res (Option Int)) : Prop := PO X e (LO X.K W m)
def mOn : Env → Res (Option Int) := fun ς => .ok none ς
def kOs (r : Rv) (ς : Env) : Res (Option Int) := match pk1 (fun d => some d) r ς with
  | some (.int i) => .ok (some i) ς
  | _ => .stuck
def mOs (m : Env → Res Rv) : Env → Res (Option Int) := fun ς => (m ς).bind kOs
def cutL {α : Type} (xs : List α) (lo hi : Option Int) : List α := (xs.drop (HT.sIx xs.length 0 lo)).take (HT.sIx xs.length xs.length hi - HT.sIx xs.length 0 lo)
section
variable {X : Cx} {W : WX} {e a b : Expr} {es : List Expr} {pos : Pos} {f : Value} {k : List Rv → Env → Res Rv}
theorem do_n : DO X W none mOn := ⟨fun pins s σ H Q I h => po_none.run pins s σ H Q I (by
  obtain ⟨ς, tp, s, o⟩ := h
  exact o H s)⟩
theorem do_s {m : Env → Res Rv} (h : DE X W e m) : DO X W (some e) (mOs m) := ⟨fun pins s σ H Q I q => (po_some h).run pins s σ H Q I (by
  obtain ⟨ς, tp, s, o⟩ := q
  refine ⟨ς, tp, s, ?_⟩
  unfold mOs at o
  cases h1 : m ς with
  | stuck => rw [h1] at o; exact o
  | exc x ς1 => rw [h1] at o; exact o
  | ok r ς1 =>
    rw [h1] at o
    intro x H1 s1 a1
    have o : OutO X.K W σ tp Q (kOs r ς1) := o
    unfold kOs at o
    split at o
    · rename_i i hp
      obtain ⟨d, hd, hf⟩ := pk1_ok s1 a1 hp
      have e : d = .int i := by simpa using hf
      subst e
      exact ⟨i, dp_int hd, o H1 s1.dropL⟩
    · exact o.elim)⟩
def kSlc (r : Rv) (lo hi : Option Int) (ς : Env) : Res Rv := match r.peek ς with
  | some (.d (.tuple xs)) => .ok (.tm (.d (.tuple (cutL xs lo hi)))) ς
  | _ => match itemsD r ς with
    | some (false, xs, ς1) => .ok (.tm (.own ((cutL xs lo hi).map .d))) ς1
    | _ => .stuck
def mSlc (m : Env → Res Rv) (ml mh : Env → Res (Option Int)) : Env → Res Rv := fun ς => (m ς).bind fun r ς1 => (ml ς1).bind fun lo ς2 => (mh ς2).bind fun hi ς3 => kSlc r lo hi ς3
theorem cutV_eq (vs : List V) (lo hi : Option Int) : cutV vs lo hi = cutL vs lo hi := rfl
theorem cut_zip {vs : List V} {xs : List PyData} (hl : vs.length = xs.length) (lo hi : Option Int) : ((cutV vs lo hi).zip ((cutL xs lo hi).map U.d)).Sublist (vs.zip (xs.map U.d)) ∧ (cutV vs lo hi).length = (cutL xs lo hi).length := by
  unfold cutV cutL
  rw [hl]
  constructor
  · rw [List.map_take, List.map_drop]
    have e : ∀ (i n : Nat), ((vs.drop i).take n).zip (((xs.map U.d).drop i).take n) = ((vs.zip (xs.map U.d)).drop i).take n := fun i n => by
      rw [List.zip_eq_zipWith, List.zip_eq_zipWith, List.drop_zipWith, List.take_zipWith]
    rw [e]
    exact (List.take_sublist _ _).trans (List.drop_sublist _ _)
  · rw [List.length_take, List.length_take, List.length_drop, List.length_drop, hl]
theorem cutL_whole {xs : List PyData} {lo hi : Option Int} {n : Nat} (hn : n = xs.length) (h : HT.sIx n 0 lo = 0 ∧ HT.sIx n n hi = n) : cutL xs lo hi = xs := by
  subst hn
  unfold cutL
  rw [h.1, h.2]
  simp
def rSlX (K : PySem.W.Frag) : V → Option Int → Option Int → Hp → VK → Prop := fun x lo hi H Q => rSlL K x lo hi H Q ∨ rSlF K x lo hi H Q
theorem slc_ok {r : Rv} {v : V} {lo hi : Option Int} {σ : L2.St} {H : Hp} {ς : Env} {tp : PL} {Q : VK} (s : SR X.K H σ ς (r.tmp v ++ tp)) (a : r.at σ v) (o : OutE X.K W σ tp Q (kSlc r lo hi ς)) : rSlX X.K v lo hi H Q := by
  unfold kSlc at o
  split at o
  · rename_i xs hx
    have s2 := share_ok s a (share_of hx)
    obtain ⟨p, vs, rfl, hp, hl, q⟩ := (SR.ahead s2).itemsT
    obtain ⟨c1, c2⟩ := cut_zip hl lo hi
    refine .inr ⟨p, vs, rfl, hp, fun hw => ?_, fun hw l ob hf ho => ?_⟩
    · rw [cutL_whole hl hw] at o
      exact o _ _ s2 trivial
    · refine o _ _ (SR.newT (vs := cutV vs lo hi) ?_ c2 ho hf) trivial
      refine s2.sub ?_
      have q2 : SP X.K H ((cutV vs lo hi).zip ((cutL xs lo hi).map U.d) ++ ((V.ref p, U.d (.tuple xs)) :: (sl σ ς ++ tp))) := SP.subl q (c1.append_right _)
      exact ((q2.perm front).tail).perm swapL
  · split at o
    · rename_i xs ς1 h
      obtain ⟨p, vs, rfl, hp, hl, s2⟩ := itemsD_ok s a h
      obtain ⟨c1, c2⟩ := cut_zip hl lo hi
      refine .inl ⟨p, vs, rfl, LstN.seq hp, fun l hf => o _ _ (SR.newL (vs := cutV vs lo hi) ?_ c2 hf) trivial⟩
      exact s2.sub (SP.subl s2.sp ((c1.append_right _).append_left _))
    · exact o.elim
theorem de_slc {lo hi : Option Expr} {m : Env → Res Rv} {ml mh : Env → Res (Option Int)} {p2 : Pos} (he : DE X W e m) (hl : DO X W lo ml) (hh : DO X W hi mh) : DE X W (.Subscript e (.Slice lo hi none p2) pos) (mSlc m ml mh) := by
  refine pe_weak (pe_slice (r := rSlX X.K) (SlR.or sl_list sl_tupF) he hl hh) fun σ H Q ⟨ς, tp, s, o⟩ => ⟨ς, tp, s, ?_⟩
  unfold mSlc at o
  cases h1 : m ς with
  | stuck => rw [h1] at o; exact o
  | exc x ς1 => rw [h1] at o; exact o
  | ok r ς1 =>
    rw [h1] at o
    intro x H1 s1 a1
    refine ⟨ς1, r.tmp x ++ tp, s1, ?_⟩
    have o : OutE X.K W σ tp Q ((ml ς1).bind fun lo ς2 => (mh ς2).bind fun hi ς3 => kSlc r lo hi ς3) := o
    cases h2 : ml ς1 with
    | stuck => rw [h2] at o; exact o
    | exc x2 ς2 =>
      rw [h2] at o
      intro cls d H ps sx ex
      exact o cls d H ps ((sx.perm swapL).dropL) ex
    | ok lo ς2 =>
      rw [h2] at o
      intro H2 s2
      refine ⟨ς2, r.tmp x ++ tp, s2, ?_⟩
      have o : OutE X.K W σ tp Q ((mh ς2).bind fun hi ς3 => kSlc r lo hi ς3) := o
      cases h3 : mh ς2 with
      | stuck => rw [h3] at o; exact o
      | exc x3 ς3 =>
        rw [h3] at o
        intro cls d H ps sx ex
        exact o cls d H ps ((sx.perm swapL).dropL) ex
      | ok hi ς3 =>
        rw [h3] at o
        exact fun H3 s3 => slc_ok s3 a1 o
/-! ### x[i] -/
def kIx (ra rb : Rv) (ς : Env) : Res Rv := match pk1 (fun d => some d) rb ς with
  | some (.int i) => kIx1 ra i ς
  | _ => .stuck
def mIx (ma mb : Env → Res Rv) : Env → Res Rv := m2 ma mb kIx
theorem de_ix {ma mb : Env → Res Rv} (ha : DE X W a ma) (hb : DE X W b mb) (hs : PlainIx b := by intro o i; rfl) : DE X W (.Subscript a b pos) (mIx ma mb) :=
  pe_weak (pe_ix (r := rIx1 X.K) (ix_list.or ix_tup) ha hb hs) fun σ H Q h => le_2 h fun x y H ra rb ς tp s a1 a2 o => by
    unfold kIx at o
    split at o
    · rename_i i hp
      obtain ⟨d, hd, hf⟩ := pk1_ok s a2 hp
      have e : d = .int i := by simpa using hf
      subst e
      cases hd
      exact ix1_ok s.dropL a1 o
    · exact o.elim
end
end Vm
end
section
set_option Elab.async false
set_option linter.all false
set_option maxRecDepth 100000
namespace Vm
open PySem L2 PySem.W

/-! ### a + b, a * b -/
/-- one's own list's items, taken: shared where the list stays -/
def itemsU (r : Rv) (ς : Env) : Option (List U × Env) := match r with
  | .tm (.own us) => some (us, ς)
  | .tm (.d (.list xs)) => some (xs.map .d, ς)
  | .pl i => match ς[i]? with
    | some (some (.own us)) => match U.toDs us with
      | some xs => some (xs.map .d, ς.set i (some (.own (xs.map .d))))
      | none => none
    | some (some (.d (.list xs))) => some (xs.map .d, ς)
    | _ => none
  | _ => none
section
variable {K : PySem.W.Frag} {H H' : Hp} {σ : L2.St} {ς ς' : Env} {tp tq : PL}
theorem itemsU_ok {r : Rv} {v : V} {us : List U} (s : SR K H σ ς (r.tmp v ++ tp)) (a : r.at σ v) (h : itemsU r ς = some (us, ς')) :
    ∃ p vs, v = .ref p ∧ LstN K H p vs ∧ vs.length = us.length ∧ SR K H σ ς' (vs.zip us ++ tp) := by
  unfold itemsU at h
  split at h
  · rename_i ws
    have e : ws = us ∧ ς = ς' := by simpa using h
    obtain ⟨rfl, rfl⟩ := e
    obtain ⟨p, vs, rfl, hp, hl, q⟩ := (SR.ahead s).openL
    exact ⟨p, vs, rfl, .inl (.inl hp), hl, s.sub (q.tail.perm swapL)⟩
  · rename_i ys
    have e : ys.map U.d = us ∧ ς = ς' := by simpa using h
    obtain ⟨rfl, rfl⟩ := e
    obtain ⟨p, vs, rfl, hp, hl, q⟩ := (SR.ahead s).itemsLN
    exact ⟨p, vs, rfl, hp, by simpa using hl, s.sub ((q.perm front).tail.perm swapL)⟩
  · rename_i i
    split at h
    · rename_i ws hc
      split at h
      · rename_i xs hx
        have e : xs.map U.d = us ∧ ς.set i (some (.own (xs.map .d))) = ς' := by simpa using h
        obtain ⟨rfl, rfl⟩ := e
        have s : SR K H σ ς tp := s
        have a : σ[i]? = some (some v) := a
        obtain ⟨v', hv, q⟩ := s.slot hc
        rw [a] at hv; cases hv
        obtain ⟨p, vs, rfl, hp, hl, q1⟩ := q.openL
        refine ⟨p, vs, rfl, .inl (.inl hp), (by rw [List.length_map]; exact hl.trans (toDs_len hx)), ?_⟩
        have hl2 : vs.length = (xs.map U.d).length := by rw [List.length_map]; exact hl.trans (toDs_len hx)
        have q2 : SP K H (vs.zip ws ++ ((V.ref p, U.hole) :: (sl σ (ς.set i none) ++ tp))) := q1.perm front.symm
        have q3 := SP.dupAll (hl.trans (toDs_len hx)) (SP.freezeAll hx hl q2)
        have q4 : SP K H ((V.ref p, U.hole) :: (vs.zip (xs.map U.d) ++ (vs.zip (xs.map U.d) ++ (sl σ (ς.set i none) ++ tp)))) := q3.perm (by
          have e1 : (vs.zip (xs.map U.d) ++ ((V.ref p, U.hole) :: (sl σ (ς.set i none) ++ tp))).Perm ((V.ref p, U.hole) :: (vs.zip (xs.map U.d) ++ (sl σ (ς.set i none) ++ tp))) := front
          exact (e1.append_left _).trans front)
        have q5 := q4.shutL hl2
        rw [upd_id hp] at q5
        exact s.reslot hc a (tp := vs.zip (xs.map U.d) ++ tp) (q5.perm (List.Perm.cons _ swapL))
      · cases h
    · rename_i ys hc
      have e : ys.map U.d = us ∧ ς = ς' := by simpa using h
      obtain ⟨rfl, rfl⟩ := e
      have s : SR K H σ ς tp := s
      have a : σ[i]? = some (some v) := a
      obtain ⟨v', hv, q⟩ := s.slot hc
      rw [a] at hv; cases hv
      obtain ⟨p, vs, rfl, hp, hl, q⟩ := q.itemsLN
      refine ⟨p, vs, rfl, hp, by simpa using hl, s.sub ?_⟩
      refine q.perm ?_
      exact (((sl_take hc a).append_right tp).symm.append_left _).trans swapL
    · cases h
  · cases h
end
def dSum : PyData → PyData → Option PyData
  | .int i, .int j => some (.int (i + j))
  | .int i, .bool b => some (.int (i + PyProof.Rows.b2i b))
  | .str x, .str y => if x.length + y.length ≤ sizeLine then some (.str (x ++ y)) else none
  | .tuple xs, .tuple ys => if xs.length + ys.length ≤ sizeLine then some (.tuple (xs ++ ys)) else none
  | _, _ => none
def kCat (ra rb : Rv) (ς : Env) : Res Rv := match itemsU rb ς with
    | some (ws, ς1) => match itemsU ra ς1 with
      | some (us, ς2) => if us.length + ws.length ≤ sizeLine then .ok (.tm (.own (us ++ ws))) ς2 else .stuck
      | none => .stuck
    | none => .stuck
def kAdd (ra rb : Rv) (ς : Env) : Res Rv := match ra.peek ς, rb.peek ς with
  | some (.d x), some (.d y) => match dSum x y with
    | some z => .ok (.tm (.d z)) ς
    | none => kCat ra rb ς
  | some _, some _ => kCat ra rb ς
  | _, _ => .stuck
def mAdd (ma mb : Env → Res Rv) : Env → Res Rv := m2 ma mb kAdd
def rCatStr : R2 := fun x y H Q => ∃ i j, x = .str i ∧ y = .str j ∧ i.length + j.length ≤ sizeLine ∧ Q (.str (i ++ j)) H
def rCatN (K : PySem.W.Frag) : R2 := fun x y H Q => ∃ l b xs zs, x = .ref l ∧ y = .ref b ∧ LstN K H l xs ∧ LstN K H b zs ∧ xs.length + zs.length ≤ sizeLine ∧ ∀ p, H p = none → Q (.ref p) (upd H p (.lst (xs ++ zs)))
theorem op_catN {X : Cx} : OpR X (binaryOp .Add) (rCatN X.K) := by
  rintro pins s σ H x y v u Q I rx ry ⟨l, b, xs, zs, rfl, rfl, hx, hz, hsz, q⟩
  cases rx
  cases ry
  obtain ⟨_, its, n, r, hl, e⟩ := hx.at I
  obtain ⟨_, its2, n2, r2, hl2, e2⟩ := hz.at I
  refine PySem.P.add_list e e2 ?_ (by rw [List.size_toArray, List.size_toArray, ← hl, ← hl2]; exact hsz)
  have J := Inv.lnew (its := its ++ its2) (ys := xs ++ zs) (t' := s.toks) I (r.append r2) (by rw [List.length_append]; exact hsz)
  rw [← List.append_toArray] at J
  exact ⟨.ref _, _, J, rfl, q _ I.fresh⟩
def rAddX (K : PySem.W.Frag) : R2 := fun x y H Q => rI0 (fun i j => .int (i + j)) x y H Q ∨ (∃ i b, x = .int i ∧ y = .bl b ∧ Q (.int (i + PyProof.Rows.b2i b)) H) ∨ rCatStr x y H Q ∨ rCatF K x y H Q ∨ rCatN K x y H Q
section
variable {X : Cx} {W : WX} {e a b : Expr} {es : List Expr} {pos : Pos} {f : Value} {k : List Rv → Env → Res Rv}
theorem op_addX : OpR X (binaryOp .Add) (rAddX X.K) := by
  intro pins s σ H x y v u Q I rx ry h
  rcases h with h | h | h | h | h
  · exact op_add pins s σ H x y v u Q I rx ry h
  · exact op_add_ib pins s σ H x y v u Q I rx ry h
  · exact op_add_str pins s σ H x y v u Q I rx ry h
  · exact op_catF pins s σ H x y v u Q I rx ry h
  · exact op_catN pins s σ H x y v u Q I rx ry h
theorem peek_share {K : PySem.W.Frag} {H : Hp} {σ : L2.St} {ς : Env} {tp : PL} {r : Rv} {v : V} {x : PyData} (s : SR K H σ ς (r.tmp v ++ tp)) (a : r.at σ v) (h : r.peek ς = some (.d x)) : SR K H σ ς ((v, .d x) :: tp) := share_ok s a (share_of h)
theorem cat_ok {x y : V} {H : Hp} {ra rb : Rv} {σ : L2.St} {ς : Env} {tp : PL} {Q : VK} (s : SR X.K H σ ς (rb.tmp y ++ (ra.tmp x ++ tp))) (a1 : ra.at σ x) (a2 : rb.at σ y) (o : OutE X.K W σ tp Q (kCat ra rb ς)) : rCatN X.K x y H Q := by
  unfold kCat at o
  split at o
  · rename_i ws ς1 hw
    split at o
    · rename_i us ς2 hu
      split at o
      · rename_i hl
        obtain ⟨p2, zs, rfl, hp2, hlw, s1⟩ := itemsU_ok s a2 hw
        have s2 : SR X.K H σ ς1 (ra.tmp x ++ (zs.zip ws ++ tp)) := s1.perm swapL
        obtain ⟨p, vs, rfl, hp, hlu, s3⟩ := itemsU_ok s2 a1 hu
        refine ⟨p, p2, vs, zs, rfl, rfl, hp, hp2, by rw [hlu, hlw]; exact hl, fun l hf => o _ _ ?_ trivial⟩
        have e1 : (vs ++ zs).zip (us ++ ws) = vs.zip us ++ zs.zip ws := List.zip_append hlu
        have q : SP X.K H ((vs ++ zs).zip (us ++ ws) ++ (sl σ ς2 ++ tp)) := by
          rw [e1, List.append_assoc]
          refine s3.sp.perm ?_
          refine swapL.trans (List.Perm.append_left _ ?_)
          exact swapL
        exact s3.of_ahead (q.newOwn (by simp [hlu, hlw]) hf)
      · exact o.elim
    · exact o.elim
  · exact o.elim
theorem add_ok {x y : V} {H : Hp} {ra rb : Rv} {σ : L2.St} {ς : Env} {tp : PL} {Q : VK} (s : SR X.K H σ ς (rb.tmp y ++ (ra.tmp x ++ tp))) (a1 : ra.at σ x) (a2 : rb.at σ y) (o : OutE X.K W σ tp Q (kAdd ra rb ς)) : rAddX X.K x y H Q := by
  unfold kAdd at o
  split at o
  · rename_i dx dy hx hy
    have s1 := peek_share s a2 hy
    have s2 : SR X.K H σ ς (ra.tmp x ++ ((y, .d dy) :: tp)) := s1.perm front.symm
    have s3 := peek_share s2 a1 hx
    have px : Dp X.K H x dx := s3.ahead.peek rfl
    have py : Dp X.K H y dy := s3.tail.ahead.peek rfl
    have s0 : SR X.K H σ ς tp := s3.tail.tail
    split at o
    · rename_i z hz
      unfold dSum at hz
      split at hz
      · rename_i i j
        have e := Option.some.inj hz
        subst e
        exact .inl ⟨i, j, dp_int px, dp_int py, o _ H (s0.putD rfl) trivial⟩
      · rename_i i c
        have e := Option.some.inj hz
        subst e
        exact .inr (.inl ⟨i, c, dp_int px, dp_bl py, o _ H (s0.putD rfl) trivial⟩)
      · rename_i i j
        split at hz
        · rename_i hl
          have e := Option.some.inj hz
          subst e
          exact .inr (.inr (.inl ⟨i, j, dp_str px, dp_str py, hl, o _ H (s0.putD rfl) trivial⟩))
        · cases hz
      · rename_i xs ys
        split at hz
        · rename_i hl
          have e := Option.some.inj hz
          subst e
          obtain ⟨p, vs, rfl, hp, hlx, q⟩ := s3.ahead.itemsT
          have q1 : SP X.K H ((y, U.d (.tuple ys)) :: (vs.zip (xs.map U.d) ++ ((V.ref p, U.d (.tuple xs)) :: (sl σ ς ++ tp)))) := q.perm (by
            have e1 : (sl σ ς ++ (y, U.d (.tuple ys)) :: tp).Perm ((y, U.d (.tuple ys)) :: (sl σ ς ++ tp)) := front
            exact ((e1.cons _).append_left _).trans ((List.Perm.append_left _ (.swap _ _ _)).trans front))
          obtain ⟨p2, ws, rfl, hp2, hly, q2⟩ := q1.itemsT
          refine .inr (.inr (.inr (.inl ⟨p, p2, vs, ws, rfl, rfl, hp, hp2, by rw [hlx, hly]; exact hl, fun hn => ?_, fun hn hm => ?_, fun hn hm l ob hf ho => ?_⟩)))
          · have hx0 : xs = [] := by rw [hn] at hlx; exact List.length_eq_zero_iff.mp hlx.symm
            subst hx0
            exact o _ H s3.tail trivial
          · have hy0 : ys = [] := by rw [hm] at hly; exact List.length_eq_zero_iff.mp hly.symm
            subst hy0
            rw [List.append_nil] at o
            exact o _ H (s3.of_ahead (s3.sp.perm (by exact (front.trans (List.Perm.cons _ front)).trans (.swap _ _ _))).tail |> fun z => ⟨z.sp, s3.cov, s3.len⟩) trivial
          · refine o _ _ (SR.newT (vs := vs ++ ws) (xs := xs ++ ys) ?_ (by simp [hlx, hly]) ho hf) trivial
            refine s0.sub ?_
            have e1 : (vs ++ ws).zip ((xs ++ ys).map U.d) = vs.zip (xs.map U.d) ++ ws.zip (ys.map U.d) := by
              rw [List.map_append, List.zip_append (by simpa using hlx)]
            rw [e1]
            have q3 : SP X.K H ((vs.zip (xs.map U.d) ++ ws.zip (ys.map U.d)) ++ (((V.ref p2, U.d (.tuple ys)) :: (V.ref p, U.d (.tuple xs)) :: []) ++ (sl σ ς ++ tp))) := q2.perm (by
              have e2 : ((V.ref p2, U.d (.tuple ys)) :: (vs.zip (xs.map U.d) ++ ((V.ref p, U.d (.tuple xs)) :: (sl σ ς ++ tp)))).Perm (vs.zip (xs.map U.d) ++ ((V.ref p2, U.d (.tuple ys)) :: (V.ref p, U.d (.tuple xs)) :: (sl σ ς ++ tp))) := front.symm
              refine (e2.append_left _).trans ?_
              rw [List.append_assoc]
              exact swapL)
            have q4 : SP X.K H ((vs.zip (xs.map U.d) ++ ws.zip (ys.map U.d)) ++ (sl σ ς ++ tp)) := (q3.perm swapL).dropL
            exact q4.perm swapL
        · cases hz
      · cases hz
    · exact .inr (.inr (.inr (.inr (cat_ok s a1 a2 o))))
  · exact .inr (.inr (.inr (.inr (cat_ok s a1 a2 o))))
  · exact o.elim
theorem repAll {K : PySem.W.Frag} {H : Hp} {xs : List PyData} {vs : List V} (hl : vs.length = xs.length) : ∀ (k : Nat) {ps : PL}, SP K H (vs.zip (xs.map .d) ++ ps) → SP K H ((List.replicate k vs).flatten.zip ((List.replicate k (xs.map U.d)).flatten) ++ ps)
  | 0, ps, s => by simpa using s.dropL
  | k + 1, ps, s => by
    have s1 := SP.dupAll hl s
    have s2 := repAll hl k (ps := vs.zip (xs.map U.d) ++ ps) s1
    have e : (List.replicate (k + 1) vs).flatten.zip ((List.replicate (k + 1) (xs.map U.d)).flatten) = vs.zip (xs.map U.d) ++ (List.replicate k vs).flatten.zip ((List.replicate k (xs.map U.d)).flatten) := by
      rw [List.replicate_succ, List.replicate_succ, List.flatten_cons, List.flatten_cons, List.zip_append (by simpa using hl)]
    rw [e, List.append_assoc]
    exact s2.perm swapL
def kMul (ra rb : Rv) (ς : Env) : Res Rv := match rb.peek ς with
  | some (.d (.int j)) => match ra.peek ς with
    | some (.d (.int i)) => match fMul (.int i) (.int j) with
      | some z => .ok (.tm (.d z)) ς
      | none => .stuck
    | some _ => match itemsU ra ς with
      | some (us, ς1) => match U.toDs us with
        | some xs => if -1000000 ≤ j ∧ j ≤ 1000000 ∧ xs.length * j.toNat ≤ sizeLine then .ok (.tm (.own (List.replicate j.toNat (xs.map U.d)).flatten)) ς1 else .stuck
        | none => .stuck
      | none => .stuck
    | none => .stuck
  | _ => .stuck
def mMul (ma mb : Env → Res Rv) : Env → Res Rv := m2 ma mb kMul
def rRepN (K : PySem.W.Frag) : R2 := fun x y H Q => ∃ l k xs, x = .ref l ∧ y = .int k ∧ LstN K H l xs ∧ -(2 ^ 63) ≤ k ∧ k < 2 ^ 63 ∧ xs.length * k.toNat ≤ sizeLine ∧
  ∀ p, H p = none → Q (.ref p) (upd H p (.lst (List.replicate k.toNat xs).flatten))
def rMulX (K : PySem.W.Frag) : R2 := fun x y H Q => rI CMulW (fun i j => .int (i * j)) x y H Q ∨ rRepN K x y H Q
theorem fold_rep (its : List Value) (m : Nat) : List.foldl (fun x1 x2 => x1 ++ x2) #[] (List.replicate m its.toArray) = (List.replicate m its).flatten.toArray := by
  have h := foldl_rep its m []
  rwa [List.nil_append] at h
theorem op_repN {X : Cx} : OpR X (binaryOp .Mult) (rRepN X.K) := by
  rintro pins s σ H x y v u Q I rx ry ⟨l, k, xs, rfl, rfl, hx, h1, h2, hz, q⟩
  cases rx
  obtain ⟨t, rfl⟩ := ry
  obtain ⟨_, its, n, r, hl, e⟩ := hx.at I
  have size : its.toArray.size * k.toNat ≤ sizeLine := by rw [List.size_toArray, ← hl]; exact hz
  have cap : ¬ its.toArray.size * k.toNat > (2 ^ 63 - 1) / 8 := fun z => by
    have line : (sizeLine : Nat) ≤ (2 ^ 63 - 1) / 8 := by decide
    omega
  have fit : ¬ (!Builtin.List.listFitsIndex k) = true := by
    rw [fitsIndex_both h1 h2]; exact Bool.false_ne_true
  have long : ¬ Builtin.List.listTooLong (its.toArray.size * k.toNat) = true := by
    rw [notLongL size]; exact Bool.false_ne_true
  have new : List.foldl (fun x1 x2 => x1 ++ x2) #[] (List.replicate (if its.toArray.isEmpty = true then 0 else k.toNat) its.toArray) = (List.replicate k.toNat its).flatten.toArray := by
    rw [fold_rep]
    rcases its with _ | ⟨a, rest⟩
    · simp
    · rw [if_neg (by simp)]
  have at_l : s.TypeIs (.ref l) "list" := ⟨_, e, rfl⟩
  have J := Inv.lnew (its := (List.replicate k.toNat its).flatten) (ys := (List.replicate k.toNat xs).flatten) (t' := s.toks) I (r.rep k.toNat) (by rw [PyProof.Rows.lm_len_rep_flat, Nat.mul_comm]; exact hz)
  refine wpAny_binaryOp_repeat_ref (T := "list") (U := "int") (by decide) at_l (fun s' => typeIs_int s' k t) noFill_list_mul F.fills_int_mul F.slot_int_rmul repeat_list F.slot_int_index.lookup ?_
  refine call_meets F.slot_int_rmul (typeIs_int s k t) F.entry_int_rmul (F.args_int_rmul_2 _ _) (int___rmul___int_list k t l its.toArray n) ⟨e, rfl, at_l, ?_⟩
  refine call_meets F.slot_list_mul at_l F.entry_list_mul (F.args_list_mul_2 _ _) (AutoListH.list___mul___list_int_3 l its.toArray n k t fit cap long) ⟨e, ?_⟩
  rw [new]
  exact ⟨.ref _, _, J, rfl, q _ I.fresh⟩
theorem op_mulXX : OpR X (binaryOp .Mult) (rMulX X.K) := by
  intro pins s σ H x y v u Q I rx ry h
  rcases h with h | h
  · exact op_mulW pins s σ H x y v u Q I rx ry h
  · exact op_repN pins s σ H x y v u Q I rx ry h
theorem len_rep {α : Type} (k : Nat) (l : List α) : (List.replicate k l).flatten.length = k * l.length := by
  induction k with
  | zero => simp
  | succ k ih => rw [List.replicate_succ, List.flatten_cons, List.length_append, ih, Nat.succ_mul, Nat.add_comm]
theorem mul_ok {x y : V} {H : Hp} {ra rb : Rv} {σ : L2.St} {ς : Env} {tp : PL} {Q : VK} (s : SR X.K H σ ς (rb.tmp y ++ (ra.tmp x ++ tp))) (a1 : ra.at σ x) (a2 : rb.at σ y) (o : OutE X.K W σ tp Q (kMul ra rb ς)) : rMulX X.K x y H Q := by
  unfold kMul at o
  split at o
  · rename_i j hy
    have s1 := peek_share s a2 hy
    have py : Dp X.K H y (.int j) := s1.ahead.peek rfl
    have ey := dp_int py
    subst ey
    have sr : SR X.K H σ ς (ra.tmp x ++ tp) := s.dropL
    split at o
    · rename_i i hx
      have s2 := peek_share sr a1 hx
      have px : Dp X.K H x (.int i) := s2.ahead.peek rfl
      have ex := dp_int px
      subst ex
      split at o
      · rename_i z hz
        unfold fMul at hz
        simp only at hz
        split at hz
        · rename_i hb
          have e := Option.some.inj hz
          subst e
          exact .inl ⟨i, j, rfl, rfl, hb, o _ H (s2.tail.putD rfl) trivial⟩
        · cases hz
      · exact o.elim
    · split at o
      · rename_i us ς1 hu
        obtain ⟨p, vs, rfl, hp, hl, s2⟩ := itemsU_ok sr a1 hu
        split at o
        · rename_i xs hx
          split at o
          · rename_i hb
            have hlx : vs.length = xs.length := hl.trans (toDs_len hx)
            have s3 : SP X.K H (vs.zip (xs.map U.d) ++ (sl σ ς1 ++ tp)) := SP.freezeAll hx hl (s2.sp.perm swapL)
            have s4 := repAll hlx j.toNat s3
            have e63 : (2 : Int) ^ 63 = 9223372036854775808 := by decide +kernel
            refine .inr ⟨p, j, vs, rfl, rfl, hp, by rw [e63]; omega, by rw [e63]; omega, by rw [hlx]; exact hb.2.2, fun l hf => o _ _ (s2.of_ahead (s4.newOwn ?_ hf)) trivial⟩
            rw [len_rep, len_rep, List.length_map, hlx]
          · exact o.elim
        · exact o.elim
      · exact o.elim
    · exact o.elim
  · exact o.elim
theorem de_mul {ma mb : Env → Res Rv} (ha : DE X W a ma) (hb : DE X W b mb) : DE X W (.BinOp a .Mult b pos) (mMul ma mb) :=
  pe_weak (pe_op op_mulXX ha hb) fun σ H Q h => le_2 h fun x y H ra rb ς tp s a1 a2 o => mul_ok s a1 a2 o
/-! is, is not of bools -/
def fIsB (neg : Bool) : PyData → PyData → Option PyData
  | .bool a, .bool b => some (.bool (if neg then !decide (a = b) else decide (a = b)))
  | _, _ => none
theorem od_isB {K : PySem.W.Frag} : OpD K (fIsB false) rIsB := fun x y d e c H Q hd he hf q => by
  unfold fIsB at hf
  split at hf
  · rename_i i j
    exact ⟨i, j, dp_bl hd, dp_bl he, q _ (by rw [← Option.some.inj hf]; rfl)⟩
  · cases hf
theorem od_notB {K : PySem.W.Frag} : OpD K (fIsB true) rNotB := fun x y d e c H Q hd he hf q => by
  unfold fIsB at hf
  split at hf
  · rename_i i j
    exact ⟨i, j, dp_bl hd, dp_bl he, q _ (by rw [← Option.some.inj hf]; rfl)⟩
  · cases hf
theorem de_add {ma mb : Env → Res Rv} (ha : DE X W a ma) (hb : DE X W b mb) : DE X W (.BinOp a .Add b pos) (mAdd ma mb) :=
  pe_weak (pe_op op_addX ha hb) fun σ H Q h => le_2 h fun x y H ra rb ς tp s a1 a2 o => add_ok s a1 a2 o
end
end Vm
end
section
set_option Elab.async false
set_option linter.all false
set_option maxRecDepth 100000
namespace Vm
open PySem L2 PySem.W

/-! ### places: a slot, or an item within an own list -/
def U.gt : U → List Nat → Option U
  | u, [] => some u
  | .own us, j :: r => match us[j]? with
    | some u => U.gt u r
    | none => none
  | _, _ :: _ => none
def U.pt : U → List Nat → U → U
  | _, [], w => w
  | .own us, j :: r, w => match us[j]? with
    | some u => .own (us.set j (U.pt u r w))
    | none => .own us
  | u, _ :: _, _ => u
def Walks (H : Hp) : V → List Nat → V → Prop
  | v0, [], v => v = v0
  | v0, j :: r, v => ∃ p vs v1, v0 = .ref p ∧ H p = some (.lst vs) ∧ vs[j]? = some v1 ∧ Walks H v1 r v
def getP (ς : Env) (i : Nat) (r : List Nat) : Option U := match ς[i]? with
  | some (some u) => u.gt r
  | _ => none
def setP (ς : Env) (i : Nat) (r : List Nat) (w : U) : Env := match ς[i]? with
  | some (some u) => ς.set i (some (u.pt r w))
  | _ => ς
section
variable {K : PySem.W.Frag} {H H' : Hp} {σ : L2.St} {ς ς' : Env} {tp tq : PL}
theorem zip_set {vs : List V} {us : List U} {j : Nat} {v : V} {u : U} (hl : vs.length = us.length) (hv : vs[j]? = some v) (hu : us[j]? = some u) :
    ∃ as bs, vs.zip us = as ++ (v, u) :: bs ∧ ∀ w, vs.zip (us.set j w) = as ++ (v, w) :: bs := by
  induction vs generalizing us j with
  | nil => simp at hv
  | cons a vs ih =>
    cases us with
    | nil => simp at hl
    | cons b us =>
      cases j with
      | zero =>
        simp at hv hu; subst hv; subst hu
        exact ⟨[], vs.zip us, rfl, fun w => rfl⟩
      | succ j =>
        obtain ⟨as, bs, e1, e2⟩ := ih (us := us) (j := j) (by simpa using hl) (by simpa using hv) (by simpa using hu)
        exact ⟨(a, b) :: as, bs, by simp [e1], fun w => by simp [e2]⟩
/-- THE FOCUS -/
theorem focusU : ∀ (r : List Nat) (u : U) (v0 v : V) (w : U) (ps : PL), SP K H ((v0, u) :: ps) → Walks H v0 r v → u.gt r = some w →
    ∃ rest : PL, SP K H ((v, w) :: (rest ++ ps)) ∧ ∀ (H' : Hp) (w' : U) (qs : PL), SP K H' ((v, w') :: (rest ++ qs)) → SP K H' ((v0, u.pt r w') :: qs)
  | [], u, v0, v, w, ps, s, hw, hg => by
    have e : v = v0 := hw
    subst e
    have e2 : u = w := by simpa [U.gt] using hg
    subst e2
    exact ⟨[], s, fun H' w' qs h => by simpa [U.pt] using h⟩
  | j :: r, u, v0, v, w, ps, s, hw, hg => by
    obtain ⟨p, vs, v1, rfl, hp, hj, hw⟩ := hw
    cases u with
    | own us =>
      cases hu : us[j]? with
      | none => simp [U.gt, hu] at hg
      | some u1 =>
        have hg : u1.gt r = some w := by simpa [U.gt, hu] using hg
        obtain ⟨p', vs', e, hp', hl, q⟩ := s.openH
        cases e
        rw [hp] at hp'; cases hp'
        obtain ⟨as, bs, e1, e2⟩ := zip_set hl hj hu
        have re : ∀ (x : V × U) (qs : PL), ((V.ref p, U.hol (.lst vs)) :: ((as ++ x :: bs) ++ qs)).Perm (x :: ((V.ref p, U.hol (.lst vs)) :: (as ++ bs) ++ qs)) := fun x qs => by
          refine List.Perm.trans (List.Perm.cons _ (List.Perm.append_right _ front)) ?_
          exact .swap _ _ _
        have q1 : SP K H ((v1, u1) :: ((V.ref p, U.hol (.lst vs)) :: (as ++ bs) ++ ps)) := by
          rw [e1] at q
          exact q.perm (re _ _)
        obtain ⟨rest, q2, back⟩ := focusU r u1 v1 v w _ q1 hw hg
        refine ⟨rest ++ ((V.ref p, U.hol (.lst vs)) :: (as ++ bs)), by rw [List.append_assoc]; exact q2, fun H' w' qs h => ?_⟩
        rw [List.append_assoc] at h
        have b1 := back H' w' _ h
        have b2 : SP K H' ((V.ref p, U.hol (.lst vs)) :: (vs.zip (us.set j (u1.pt r w')) ++ qs)) := by
          rw [e2]
          exact b1.perm (re _ _).symm
        have b3 := b2.shutH (by simpa using hl)
        simpa [U.pt, hu] using b3
    | _ => simp [U.gt] at hg
theorem pt_len {ς : Env} {i : Nat} {r : List Nat} {w : U} : (setP ς i r w).length = ς.length := by
  unfold setP
  split
  · rw [List.length_set]
  · rfl
theorem SR.focus {i : Nat} {r : List Nat} {v0 v : V} {w : U} (s : SR K H σ ς tp) (h0 : σ[i]? = some (some v0)) (hw : Walks H v0 r v) (hg : getP ς i r = some w) :
    ∃ rest : PL, SR K H σ (ς.set i none) ((v, w) :: (rest ++ tp)) ∧
      ∀ (H' : Hp) (w' : U) (ς1 : Env) (tq : PL), ς1[i]? = some none → SR K H' σ ς1 ((v, w') :: (rest ++ tq)) → ∃ u, ς[i]? = some (some u) ∧ SR K H' σ (ς1.set i (some (u.pt r w'))) tq := by
  unfold getP at hg
  split at hg
  · rename_i u hc
    obtain ⟨v', hv, q⟩ := s.slot hc
    rw [h0] at hv; cases hv
    obtain ⟨rest, q2, back⟩ := focusU r u v0 v w _ q hw hg
    refine ⟨rest, ?_, fun H' w' ς1 tq hn s1 => ⟨u, hc, ?_⟩⟩
    · refine s.unslot ?_
      refine q2.perm ?_
      refine List.Perm.trans ?_ front.symm
      exact List.Perm.cons _ swapL
    · have q3 : SP K H' ((v, w') :: (rest ++ (sl σ ς1 ++ tq))) := s1.ahead.perm (List.Perm.cons _ swapL)
      have q4 := back H' w' _ q3
      have hl : i < ς1.length := (List.getElem?_eq_some_iff.mp hn).1
      exact ⟨q4.perm ((sl_put _ hn h0).append_right tq).symm, cov_set_some h0 s1.cov, by rw [List.length_set]; exact s1.len⟩
  · cases hg
theorem set_back {i : Nat} {r : List Nat} {u w' : U} {ς : Env} (hc : ς[i]? = some (some u)) : (ς.set i none).set i (some (u.pt r w')) = setP ς i r w' := by
  unfold setP
  rw [hc, List.set_set]
/-- at once, nothing between -/
theorem SR.focus1 {i : Nat} {r : List Nat} {v0 v : V} {w : U} (s : SR K H σ ς tp) (h0 : σ[i]? = some (some v0)) (hw : Walks H v0 r v) (hg : getP ς i r = some w) :
    ∃ rest : PL, SP K H ((v, w) :: (rest ++ (sl σ (ς.set i none) ++ tp))) ∧
      ∀ (H' : Hp) (w' : U) (tq : PL), SP K H' ((v, w') :: (rest ++ (sl σ (ς.set i none) ++ tq))) → SR K H' σ (setP ς i r w') tq := by
  obtain ⟨rest, s1, back⟩ := s.focus h0 hw hg
  have re : ∀ (x : V × U) (tq : PL), (sl σ (ς.set i none) ++ x :: (rest ++ tq)).Perm (x :: (rest ++ (sl σ (ς.set i none) ++ tq))) := fun x tq => front.trans (List.Perm.cons _ swapL)
  refine ⟨rest, s1.sp.perm (re _ _), fun H' w' tq q => ?_⟩
  have hn : (ς.set i none)[i]? = some none := by
    have hi : i < ς.length := by rw [s.len]; exact (List.getElem?_eq_some_iff.mp h0).1
    simp [hi]
  obtain ⟨u, hc, s2⟩ := back H' w' (ς.set i none) tq hn ⟨q.perm (re _ _).symm, s1.cov, s1.len⟩
  rw [set_back hc] at s2
  exact s2
end

/-! ### expressions that are places -/
def OutP (K : PySem.W.Frag) (W : WX) (σ : L2.St) (tp : PL) (Q : VK) : Res (Nat × List Nat) → Prop
  | .ok (i, r) ς => ∀ v0 v H, SR K H σ ς tp → σ[i]? = some (some v0) → Walks H v0 r v → Q v H
  | .exc x ς => ∀ cls d H ps, SR K H σ ς (ps ++ tp) → ExR K H x cls d ps → W cls d σ H
  | .stuck => False
def LP (K : PySem.W.Frag) (W : WX) (m : Env → Res (Nat × List Nat)) : TE := fun σ H Q => ∃ ς tp, SR K H σ ς tp ∧ OutP K W σ tp Q (m ς)
def DP (X : Cx) (W : WX) (e : Expr) (m : Env → Res (Nat × List Nat)) : Prop := PE X e (LP X.K W m)
def pN (i : Nat) : Env → Res (Nat × List Nat) := fun ς => match ς[i]? with
  | some (some _) => .ok (i, []) ς
  | _ => .stuck
def kPI (i : Nat) (r : List Nat) (rb : Rv) (ς : Env) : Res (Nat × List Nat) := match pk1 (fun d => some d) rb ς with
  | some (.int k) => match getP ς i r with
    | some (.own us) => match ixN us.length k with
      | some j => .ok (i, r ++ [j]) ς
      | none => .stuck
    | _ => .stuck
  | _ => .stuck
/-- an item of a place: the index looks at nothing of that slot -/
def pI (mp : Env → Res (Nat × List Nat)) (mb : Env → Res Rv) : Env → Res (Nat × List Nat) := fun ς => (mp ς).bind fun p ς1 => match mb ς1 with
  | .ok rb ς2 => if p.2 = [] then kPI p.1 p.2 rb ς2 else .stuck
  | r => r.bind fun _ _ => .stuck
theorem walks_snoc {H : Hp} : ∀ {r : List Nat} {v0 v : V} {j : Nat} {p : Addr} {vs : List V} {w : V}, Walks H v0 r v → v = .ref p → H p = some (.lst vs) → vs[j]? = some w → Walks H v0 (r ++ [j]) w
  | [], v0, v, j, p, vs, w, h, e, hp, hj => by
    have e0 : v = v0 := h
    subst e0
    exact ⟨p, vs, w, e, hp, hj, rfl⟩
  | k :: r, v0, v, j, p, vs, w, h, e, hp, hj => by
    obtain ⟨p1, vs1, v1, a, b, c, d⟩ := h
    exact ⟨p1, vs1, v1, a, b, c, walks_snoc d e hp hj⟩
section
variable {X : Cx} {W : WX} {prot : Nat → Bool} {e a b : Expr} {es : List Expr} {pos : Pos}
theorem dp_n (i : Nat) {x : Str} (hN : X.N[i]? = some x := by rfl) (hv : Vis X.env.scope x := by first | exact Or.inl rfl | exact Or.inr (Or.inl rfl) | exact Or.inr (Or.inr rfl)) (hd : (x == ("__debug__" : Str)) = false := by decide)
    (hcd : (x == ("__classdict__" : Str)) = false := by decide) : DP X W (.Name x pos) (pN i) := by
  refine pe_weak (pe_var (i := i) hN hv hd hcd) fun σ H Q ⟨ς, tp, s, o⟩ => ?_
  unfold pN at o
  cases hc : ς[i]? with
  | none => rw [hc] at o; exact o.elim
  | some u =>
    cases u with
    | none => rw [hc] at o; exact o.elim
    | some u =>
      rw [hc] at o
      obtain ⟨v, hv⟩ := s.cov i u hc
      exact ⟨v, hv, o v v H s hv rfl⟩
theorem dp_i {mp : Env → Res (Nat × List Nat)} {mb : Env → Res Rv} (ha : DP X W a mp) (hb : DE X W b mb) (hs : PlainIx b := by intro o i; rfl) : DP X W (.Subscript a b pos) (pI mp mb) := by
  refine pe_weak (pe_ix (r := rIxL X.K) ix_list ha hb hs) fun σ H Q ⟨ς, tp, s, o⟩ => ⟨ς, tp, s, ?_⟩
  unfold pI at o
  cases h1 : mp ς with
  | stuck => rw [h1] at o; exact o
  | exc x ς1 => rw [h1] at o; exact o
  | ok p ς1 =>
    obtain ⟨i, r⟩ := p
    rw [h1] at o
    intro v0 v H1 s1 h0 hw
    refine ⟨ς1, tp, s1, ?_⟩
    have o : OutP X.K W σ tp Q (match mb ς1 with
      | .ok rb ς2 => if r = [] then kPI i r rb ς2 else .stuck
      | r => r.bind fun _ _ => .stuck) := o
    cases h2 : mb ς1 with
    | stuck => rw [h2] at o; exact o.elim
    | exc x ς2 => rw [h2] at o; exact o
    | ok rb ς2 =>
      rw [h2] at o
      by_cases hr : r = []
      · subst hr
        have o : OutP X.K W σ tp Q (kPI i [] rb ς2) := by simpa using o
        have e0 : v = v0 := hw
        subst e0
        intro y H2 s2 a2
        unfold kPI at o
        split at o
        · rename_i k hk
          obtain ⟨d, hd, hf⟩ := pk1_ok s2 a2 hk
          have e : d = .int k := by simpa using hf
          subst e
          have ey := dp_int hd
          subst ey
          have s3 : SR X.K H2 σ ς2 tp := s2.dropL
          split at o
          · rename_i us hg
            split at o
            · rename_i j hj
              obtain ⟨rest, q, _⟩ := s3.focus1 (r := []) h0 (v := v) rfl hg
              obtain ⟨p, vs, rfl, hp, hl, _⟩ := q.openL
              have hjl : j < us.length := (ixN_seq hj).2.1
              have hv : vs[j]? = some (vs[j]'(by omega)) := by simp [show j < vs.length by omega]
              refine ⟨p, vs, k, _, rfl, rfl, .inl (.inl hp), atI_of (by rw [hl]; exact hj) hv, o _ _ _ s3 h0 ?_⟩
              exact ⟨p, vs, _, rfl, hp, hv, rfl⟩
            · exact o.elim
          · exact o.elim
        · exact o.elim
      · simp only [if_neg hr] at o
        exact o.elim
end
end Vm
end
section
set_option Elab.async false
set_option linter.all false
set_option maxRecDepth 100000
namespace Vm
open PySem L2 PySem.W

/-! ### o.m(..) of a list, a tuple, a text: the type told by what stands there -/
def TyOk (X : Cx) (T : String) (ty : V → Hp → Prop) : Prop := ∀ (pins : List (Addr × Obj)) (σ : L2.St) (H : Hp) (s : Shared) (x : V) (v : Value),
  Inv X pins σ H s → RelV x v → ty x H → s.TypeIs v T ∧ ∀ a, v = .ref a → ∃ ob, s.heap.get? a = some ob ∧ ob.dict = none
def isLst (K : PySem.W.Frag) (x : V) (H : Hp) : Prop := ∃ p xs, x = .ref p ∧ SqL K H p xs
def isTup (K : PySem.W.Frag) (x : V) (H : Hp) : Prop := ∃ p xs, x = .ref p ∧ TupN K H p xs
def isStr (x : V) (H : Hp) : Prop := ∃ z, x = .str z
section
variable {X : Cx} {W : WX} {prot : Nat → Bool} {o e a b : Expr} {es : List Expr} {pos : Pos} {T id : String} {ty : V → Hp → Prop} {r : V → List V → Hp → VK → Prop} {to : TE} {t : TA} {name : Str} {apos cpos : Pos}
theorem tyL : TyOk X "list" (isLst X.K) := by
  rintro pins σ H s x v I rx ⟨p, xs, rfl, h⟩
  cases rx
  obtain ⟨its, _, pl, _⟩ := I.list h
  refine ⟨pl.isList.typeIs, fun a e => ?_⟩
  cases e
  obtain ⟨ob, _, e, _, hd, _⟩ := pl
  exact ⟨ob, e, hd⟩
theorem tyT : TyOk X "tuple" (isTup X.K) := by
  rintro pins σ H s x v I rx ⟨p, xs, rfl, h⟩
  cases rx
  rcases h with ⟨ob, t, h⟩ | ⟨ob, its, n, t, h, _⟩
  · have g := (I.hok p _ h).1
    exact ⟨⟨ob, g, t.1⟩, fun a e => by cases e; exact ⟨ob, g, t.2⟩⟩
  · have g := I.kIn p ob h
    exact ⟨⟨ob, g, t.1⟩, fun a e => by cases e; exact ⟨ob, g, t.2⟩⟩
theorem tyS : TyOk X "str" isStr := by
  rintro pins σ H s x v I rx ⟨z, rfl⟩
  obtain ⟨t, rfl⟩ := rx
  exact ⟨typeIs_str s z t, fun _ e => nomatch e⟩
def tMeth1 (ty : V → Hp → Prop) (r : V → List V → Hp → VK → Prop) (to : TE) (t : TA) : TE := fun σ H Q => to σ H fun x H1 => ty x H1 ∧ t σ H1 fun xs H2 => r x xs H2 Q
theorem pe_m0 (tk : TyOk X T ty) (pa : PlainAttrs T) (slot : Slot T name id) (hty : typeOf (.builtin id) = pure (.type "method_descriptor")) (hm : MtR X id r) (ho : PE X o to)
    (hbase : attributeBase o name X.env (eval o X.env) = eval o X.env := by rfl) (hline : (apos.endLine == cpos.line) = true := by rfl) : PE X (.Call (.Attribute o name apos) [] [] cpos) (tMeth1 ty r to tNil) :=
  ⟨fun pins s σ H Q I h => wpAny_Call_method0_late hbase hline (thn (ho.run pins s σ H _ I h) fun v s1 ⟨x, H1, I1, r1, hT, q1⟩ => by
    obtain ⟨h1, h2⟩ := tk pins σ H1 s1 x v I1 r1 hT
    exact ⟨T, id, pa, slot, hty, h1, h2, Calls.callWith_builtin rfl (PySem.evalArgs_none (hm pins s1 σ H1 x [] v [] Q I1 r1 .nil q1))⟩)⟩
theorem pe_m1 (tk : TyOk X T ty) (pa : PlainAttrs T) (slot : Slot T name id) (hty : typeOf (.builtin id) = pure (.type "method_descriptor")) (hm : MtR X id r) (ho : PE X o to) (ha : PA X (e :: es) t)
    (hbase : attributeBase o name X.env (eval o X.env) = eval o X.env := by rfl)
    (hfew : ((backTo cpos (starEach (e :: es) X.env)).all (fun x => !x.1) && (backToKw cpos (keywordEach [] X.env)).all (fun x => x.1.isSome)
      && decide ((e :: es).length + ([] : List Keyword).length + (if ([] : List Keyword).isEmpty then 0 else 1) < 30)) = true := by rfl)
    (hline : (apos.endLine == cpos.line) = true := by rfl) (hs : starEach (e :: es) X.env = (false, eval e X.env) :: starEach es X.env := by rfl)
    (hpl : (backTo cpos (starEach es X.env)).any (·.1) = false := by rfl) : PE X (.Call (.Attribute o name apos) (e :: es) [] cpos) (tMeth1 ty r to t) :=
  ⟨fun pins s σ H Q I h => wpAny_Call_method_late hbase hfew hline rfl (thn (ho.run pins s σ H _ I h) fun v s1 ⟨x, H1, I1, r1, hT, q1⟩ => by
    obtain ⟨h1, h2⟩ := tk pins σ H1 s1 x v I1 r1 hT
    refine ⟨T, id, pa, slot, hty, h1, h2, ?_⟩
    have hA := ha.run cpos pins s1 σ H1 _ I1 q1
    rw [hs] at hA ⊢
    exact Calls.callWith_builtin (by show (false || (backTo cpos (starEach es X.env)).any (·.1)) = false; rw [hpl]; rfl)
      (Calls.evalArgs_plain (thn hA fun us s2 ⟨vs, H2, I2, r2, q2⟩ => hm pins s2 σ H2 x vs v us Q I2 r1 r2 q2)))⟩

/-! ### methods that change an own list at a place -/
abbrev MK := U → List U → Option (U × U)
def MutOk (X : Cx) (id : String) (mk : MK) : Prop := ∃ r, MtR X id r ∧ ∀ (v : V) (vs : List V) (H : Hp) (w : U) (us : List U) (c w' : U) (Q : VK) (ps : PL), SP X.K H ((v, w) :: (vs.zip us ++ ps)) → vs.length = us.length → mk w us = some (c, w') →
  (∀ x H', SP X.K H' ((v, w') :: ((x, c) :: ps)) → Q x H') → r v vs H Q
def kMut (i : Nat) (r : List Nat) (mk : MK) (us : List U) (ς : Env) : Res Rv := match getP ς i r with
  | some w => match mk w us with
    | some (c, w') => .ok (.tm c) (setP ς i r w')
    | none => .stuck
  | none => .stuck
def isNo : Option (Option U) → Bool
  | some none => true
  | _ => false
theorem isNo_ok {o : Option (Option U)} (h : isNo o = true) : o = some none := by
  unfold isNo at h
  split at h
  · rfl
  · cases h
def isOwn : Option U → Bool
  | some (.own _) => true
  | _ => false
def mMut (mk : MK) (mp : Env → Res (Nat × List Nat)) (ms : Env → Res (List Rv)) : Env → Res Rv := fun ς => (mp ς).bind fun p ς1 =>
  if isOwn (getP ς1 p.1 p.2) then
    if p.2 = [] then (ms ς1).bind fun rs ς2 => match shares rs ς2 with
      | some (us, ς3) => kMut p.1 [] mk us ς3
      | none => .stuck
    else match ς1[p.1]? with
      | some (some u) => match ms (ς1.set p.1 none) with
        | .ok rs ς2 => match shares rs ς2 with
          | some (us, ς3) => if isNo ς3[p.1]? then kMut p.1 p.2 mk us (ς3.set p.1 (some u)) else .stuck
          | none => .stuck
        | _ => .stuck
      | _ => .stuck
  else .stuck
theorem own_isLst {K : PySem.W.Frag} {H : Hp} {v : V} {u : U} {ps : PL} (s : SP K H ((v, u) :: ps)) (h : isOwn (some u) = true) : isLst K v H := by
  cases u with
  | own us =>
    obtain ⟨p, vs, rfl, hp, _⟩ := s.openL
    exact ⟨p, vs, rfl, .inl (.inl hp)⟩
  | _ => cases h
theorem mut_ok {mk : MK} {mp : Env → Res (Nat × List Nat)} {ms : Env → Res (List Rv)} {r : V → List V → Hp → VK → Prop} {σ : L2.St} {H : Hp} {Q : VK}
    (hr : ∀ (v : V) (vs : List V) (H : Hp) (w : U) (us : List U) (c w' : U) (Q : VK) (ps : PL), SP X.K H ((v, w) :: (vs.zip us ++ ps)) → vs.length = us.length → mk w us = some (c, w') → (∀ x H', SP X.K H' ((v, w') :: ((x, c) :: ps)) → Q x H') → r v vs H Q)
    (h : LE X.K W (mMut mk mp ms) σ H Q) : tMeth1 (isLst X.K) r (LP X.K W mp) (LA X.K W ms) σ H Q := by
  obtain ⟨ς, tp, s, o⟩ := h
  refine ⟨ς, tp, s, ?_⟩
  unfold mMut at o
  cases h1 : mp ς with
  | stuck => rw [h1] at o; exact o
  | exc x ς1 => rw [h1] at o; exact o
  | ok p ς1 =>
    obtain ⟨i, rr⟩ := p
    rw [h1, Res.bind_ok] at o
    intro v0 v H1 s1 h0 hw
    split at o
    · rename_i hown
      have hown : isOwn (getP ς1 i rr) = true := hown
      cases hg : getP ς1 i rr with
      | none => rw [hg] at hown; cases hown
      | some w0 =>
        rw [hg] at hown
        have ty : isLst X.K v H1 := by
          obtain ⟨rest, q, _⟩ := s1.focus1 h0 hw hg
          exact own_isLst q hown
        refine ⟨ty, ?_⟩
        split at o
        · rename_i hr0
          have hr0 : rr = [] := hr0
          subst hr0
          have ev : v = v0 := hw
          subst ev
          refine ⟨ς1, tp, s1, ?_⟩
          cases h2 : ms ς1 with
          | stuck => rw [h2] at o; exact o
          | exc x ς2 => rw [h2] at o; exact o
          | ok rs ς2 =>
            rw [h2, Res.bind_ok] at o
            intro vs H2 s2 a2
            cases h3 : shares rs ς2 with
            | none => simp only [h3] at o; exact o.elim
            | some p3 =>
              obtain ⟨us, ς3⟩ := p3
              simp only [h3] at o
              obtain ⟨s3, hl⟩ := shares_ok s2 a2 h3
              unfold kMut at o
              split at o
              · rename_i w hg3
                split at o
                · rename_i c w' hm
                  obtain ⟨rest, q, back⟩ := s3.focus1 (r := []) h0 (v := v) rfl hg3
                  refine hr v vs H2 w us c w' Q (rest ++ (sl σ (ς3.set i none) ++ tp)) ?_ hl.symm hm fun x H' q' => o x H' ?_ trivial
                  · refine q.perm (List.Perm.cons _ ?_)
                    exact (swapL.append_left _).trans swapL
                  · have q2 : SP X.K H' ((v, w') :: (rest ++ (sl σ (ς3.set i none) ++ ((x, c) :: tp)))) := q'.perm (List.Perm.cons _ (by
                      refine List.Perm.trans front.symm ?_
                      exact List.Perm.append_left _ front.symm))
                    exact back H' w' _ q2
                · exact o.elim
              · exact o.elim
        · rename_i hr0
          split at o
          · rename_i u hc
            obtain ⟨rest, s1', back⟩ := s1.focus h0 hw hg
            cases h2 : ms (ς1.set i none) with
            | stuck => rw [h2] at o; exact o.elim
            | exc x ς2 => rw [h2] at o; exact o.elim
            | ok rs ς2 =>
              rw [h2] at o
              refine ⟨ς1.set i none, _, s1', ?_⟩
              rw [h2]
              intro vs H2 s2 a2
              cases h3 : shares rs ς2 with
              | none => simp only [h3] at o; exact o.elim
              | some p3 =>
                obtain ⟨us, ς3⟩ := p3
                simp only [h3] at o
                obtain ⟨s3, hl⟩ := shares_ok s2 a2 h3
                split at o
                · rename_i hn
                  have hn := isNo_ok hn
                  have hi : i < ς3.length := (List.getElem?_eq_some_iff.mp hn).1
                  have hcu : (ς3.set i (some u))[i]? = some (some u) := by simp [hi]
                  have hgu : getP (ς3.set i (some u)) i rr = some w0 := by
                    unfold getP at hg ⊢
                    rw [hcu]; rw [hc] at hg; exact hg
                  unfold kMut at o
                  rw [hgu] at o
                  simp only at o
                  split at o
                  · rename_i c w' hm
                    refine hr v vs H2 w0 us c w' Q (rest ++ (sl σ ς3 ++ tp)) ?_ hl.symm hm fun x H' q' => o x H' ?_ trivial
                    · have e1 : (sl σ ς3 ++ (vs.zip us ++ ((v, w0) :: (rest ++ tp)))).Perm ((v, w0) :: (vs.zip us ++ (rest ++ (sl σ ς3 ++ tp)))) := by
                        refine List.Perm.trans (List.Perm.append_left _ front) (front.trans (List.Perm.cons _ ?_))
                        refine swapL.trans (List.Perm.append_left _ ?_)
                        exact swapL
                      exact s3.sp.perm e1
                    · have s4 : SR X.K H' σ ς3 ((v, w') :: (rest ++ ((x, c) :: tp))) := by
                        refine s3.sub (q'.perm ?_)
                        have e2 : ((v, w') :: ((x, c) :: (rest ++ (sl σ ς3 ++ tp)))).Perm ((v, w') :: (sl σ ς3 ++ (rest ++ ((x, c) :: tp)))) := by
                          refine List.Perm.cons _ ?_
                          have e3 : (rest ++ (sl σ ς3 ++ tp)).Perm (sl σ ς3 ++ (rest ++ tp)) := swapL
                          refine (List.Perm.cons _ e3).trans ?_
                          refine List.Perm.trans front.symm ?_
                          exact List.Perm.append_left _ front.symm
                        exact e2.trans front.symm
                      obtain ⟨u', hc', s5⟩ := back H' w' ς3 _ hn s4
                      rw [hc] at hc'; cases hc'
                      have e6 : setP (ς3.set i (some u)) i rr w' = ς3.set i (some (u.pt rr w')) := by
                        unfold setP; rw [hcu]; exact List.set_set ..
                      rw [e6]
                      exact s5
                  · exact o.elim
                · exact o.elim
          · exact o.elim
    · exact o.elim
theorem de_m1 {mk : MK} {mp : Env → Res (Nat × List Nat)} {ms : Env → Res (List Rv)} (hm : MutOk X id mk) (slot : Slot "list" name id) (hty : typeOf (.builtin id) = pure (.type "method_descriptor")) (ho : DP X W o mp) (ha : DA X W (e :: es) ms)
    (hbase : attributeBase o name X.env (eval o X.env) = eval o X.env := by rfl)
    (hfew : ((backTo cpos (starEach (e :: es) X.env)).all (fun x => !x.1) && (backToKw cpos (keywordEach [] X.env)).all (fun x => x.1.isSome)
      && decide ((e :: es).length + ([] : List Keyword).length + (if ([] : List Keyword).isEmpty then 0 else 1) < 30)) = true := by rfl)
    (hline : (apos.endLine == cpos.line) = true := by rfl) (hs : starEach (e :: es) X.env = (false, eval e X.env) :: starEach es X.env := by rfl)
    (hpl : (backTo cpos (starEach es X.env)).any (·.1) = false := by rfl) : DE X W (.Call (.Attribute o name apos) (e :: es) [] cpos) (mMut mk mp ms) := by
  obtain ⟨r, hm, hr⟩ := hm
  exact pe_weak (pe_m1 tyL PySem.F.plainAttrs_list slot hty hm ho ha hbase hfew hline hs hpl) fun σ H Q h => mut_ok hr h
theorem de_m0 {mk : MK} {mp : Env → Res (Nat × List Nat)} (hm : MutOk X id mk) (slot : Slot "list" name id) (hty : typeOf (.builtin id) = pure (.type "method_descriptor")) (ho : DP X W o mp)
    (hbase : attributeBase o name X.env (eval o X.env) = eval o X.env := by rfl) (hline : (apos.endLine == cpos.line) = true := by rfl) : DE X W (.Call (.Attribute o name apos) [] [] cpos) (mMut mk mp mNil) := by
  obtain ⟨r, hm, hr⟩ := hm
  refine pe_weak (pe_m0 tyL PySem.F.plainAttrs_list slot hty hm ho hbase hline) fun σ H Q h => ?_
  have q := mut_ok hr h
  obtain ⟨ς, tp, s, o⟩ := q
  refine ⟨ς, tp, s, ?_⟩
  cases h1 : mp ς with
  | stuck => rw [h1] at o; exact o
  | exc x ς1 => rw [h1] at o; exact o
  | ok p ς1 =>
    rw [h1] at o
    intro v0 v H1 s1 h0 hw
    obtain ⟨t1, ς2, tp2, s2, o2⟩ := o v0 v H1 s1 h0 hw
    exact ⟨t1, o2 [] H1 s2 trivial⟩
end
end Vm
end
section
set_option Elab.async false
set_option linter.all false
set_option maxRecDepth 100000
namespace Vm
open PySem L2 PySem.W

/-! ### append, pop, insert, extend -/
section
variable {X : Cx} {W : WX} {prot : Nat → Bool} {o e a b : Expr} {es : List Expr} {pos : Pos}
def mkAppend : MK := fun w us => match w, us with
  | .own xs, [u] => if xs.length < 1000000 then some (.d .none, .own (xs ++ [u])) else none
  | _, _ => none
theorem lt_line {n : Nat} (h : n < 1000000) : n < sizeLine := by rw [sizeLine_eq]; omega
theorem mu_append : MutOk X "list.append" mkAppend := by
  refine ⟨_, mt_append, fun v vs H w us c w' Q ps s hl hm q => ?_⟩
  unfold mkAppend at hm
  split at hm
  · rename_i xs u
    split at hm
    · rename_i hz
      obtain ⟨rfl, rfl⟩ := Prod.mk.inj (Option.some.inj hm)
      obtain ⟨p, ws, rfl, hp, hlw, s1⟩ := s.openL
      match vs, hl with
      | [y], _ =>
        refine ⟨p, ws, y, rfl, rfl, hp, by rw [hlw]; exact lt_line hz, q _ _ ?_⟩
        have s2 : SP X.K H ((V.ref p, U.hole) :: ((ws ++ [y]).zip (xs ++ [u]) ++ ps)) := by
          refine s1.perm (List.Perm.cons _ ?_)
          rw [List.zip_append hlw, List.append_assoc]
        have s3 := s2.shutL (by simp [hlw])
        exact s3.non.perm (.swap _ _ _)
    · cases hm
  · cases hm
def mkPop0 : MK := fun w us => match w, us with
  | .own xs, [] => match xs[xs.length - 1]? with
    | some u => some (u, .own xs.dropLast)
    | none => none
  | _, _ => none
theorem mu_pop0 : MutOk X "list.pop" mkPop0 := by
  refine ⟨_, mt_pop, fun v vs H w us c w' Q ps s hl hm q => ?_⟩
  unfold mkPop0 at hm
  split at hm
  · rename_i xs
    split at hm
    · rename_i u hu
      obtain ⟨rfl, rfl⟩ := Prod.mk.inj (Option.some.inj hm)
      obtain ⟨p, ws, rfl, hp, hlw, s1⟩ := s.openL
      match vs, hl with
      | [], _ =>
        have hn : xs ≠ [] := fun z => by subst z; simp at hu
        obtain ⟨y, hy, _⟩ := zip_at hlw hu
        refine ⟨p, ws, y, rfl, rfl, hp, by rw [hlw]; exact hy, q _ _ ?_⟩
        have hwn : ws ≠ [] := fun z => by subst z; simp at hy
        have ex : xs = xs.dropLast ++ [u] := by
          have h1 := List.dropLast_concat_getLast hn
          have h2 : xs.getLast hn = u := by
            have : xs[xs.length - 1]? = some (xs.getLast hn) := by rw [List.getLast_eq_getElem]; simp [List.length_pos_iff.mpr hn]
            rw [hu] at this; exact (Option.some.inj this).symm
          rw [h2] at h1; exact h1.symm
        have ew : ws = ws.dropLast ++ [y] := by
          have h1 := List.dropLast_concat_getLast hwn
          have h2 : ws.getLast hwn = y := by
            have : ws[ws.length - 1]? = some (ws.getLast hwn) := by rw [List.getLast_eq_getElem]; simp [List.length_pos_iff.mpr hwn]
            rw [hlw, hy] at this; exact (Option.some.inj this).symm
          rw [h2] at h1; exact h1.symm
        have hd : ws.dropLast.length = xs.dropLast.length := by rw [List.length_dropLast, List.length_dropLast, hlw]
        have s2 : SP X.K H ((V.ref p, U.hole) :: (ws.dropLast.zip xs.dropLast ++ ((y, u) :: ps))) := by
          have s1' : SP X.K H ((V.ref p, U.hole) :: ((ws.dropLast ++ [y]).zip (xs.dropLast ++ [u]) ++ ps)) := by
            rw [← ew, ← ex]; exact s1
          rw [List.zip_append hd] at s1'
          simpa using s1'
        exact s2.shutL hd
    · cases hm
  · cases hm
def mkPop1 : MK := fun w us => match w, us with
  | .own xs, [.d (.int i)] => if -1000000 ≤ i ∧ i ≤ 1000000 then match ixN xs.length i with
    | some j => match xs[j]? with
      | some u => some (u, .own (xs.eraseIdx j))
      | none => none
    | none => none else none
  | _, _ => none
theorem zip_erase {vs : List V} {us : List U} {j : Nat} {v : V} {u : U} (hl : vs.length = us.length) (hv : vs[j]? = some v) (hu : us[j]? = some u) :
    (vs.zip us).Perm ((v, u) :: (vs.eraseIdx j).zip (us.eraseIdx j)) := by
  induction vs generalizing us j with
  | nil => simp at hv
  | cons a vs ih =>
    cases us with
    | nil => simp at hl
    | cons b us =>
      cases j with
      | zero =>
        simp at hv hu; subst hv; subst hu
        exact .refl _
      | succ j =>
        have := ih (us := us) (j := j) (by simpa using hl) (by simpa using hv) (by simpa using hu)
        simp only [List.zip_cons_cons, List.eraseIdx_cons_succ]
        exact (this.cons (a, b)).trans (.swap _ _ _)
theorem len_erase2 {α β : Type} {vs : List α} {us : List β} (hl : vs.length = us.length) (j : Nat) : (vs.eraseIdx j).length = (us.eraseIdx j).length := by
  rw [List.length_eraseIdx, List.length_eraseIdx, hl]
theorem i63 {i : Int} (h : -1000000 ≤ i ∧ i ≤ 1000000) : -(2 ^ 63) ≤ i ∧ i < 2 ^ 63 := by
  have e63 : (2 : Int) ^ 63 = 9223372036854775808 := by decide +kernel
  rw [e63]; omega
theorem mu_pop1 : MutOk X "list.pop" mkPop1 := by
  refine ⟨_, mt_popAt, fun v vs H w us c w' Q ps s hl hm q => ?_⟩
  unfold mkPop1 at hm
  split at hm
  · rename_i xs i
    split at hm
    · rename_i hb
      split at hm
      · rename_i j hj
        split at hm
        · rename_i u hu
          obtain ⟨rfl, rfl⟩ := Prod.mk.inj (Option.some.inj hm)
          obtain ⟨p, ws, rfl, hp, hlw, s1⟩ := s.openL
          match vs, hl with
          | [y0], _ =>
            have s1' : SP X.K H ((y0, U.d (.int i)) :: ((V.ref p, U.hole) :: (ws.zip xs ++ ps))) := s1.perm (by
              refine List.Perm.trans (List.Perm.cons _ ?_) (.swap _ _ _)
              exact front)
            have ey := dp_int (s1'.peek (x := .int i) rfl)
            subst ey
            obtain ⟨y, hy, _⟩ := zip_at hlw hu
            refine ⟨p, ws, i, j, y, rfl, rfl, hp, (i63 hb).1, (i63 hb).2, by rw [hlw]; exact (ixN_seq hj).1, hy, q _ _ ?_⟩
            have s2 : SP X.K H ((V.ref p, U.hole) :: ((ws.eraseIdx j).zip (xs.eraseIdx j) ++ ((y, u) :: ps))) := s1'.tail.perm (List.Perm.cons _ (by
              refine ((zip_erase hlw hy hu).append_right ps).trans ?_
              exact front.symm))
            exact s2.shutL (len_erase2 hlw j)
        · cases hm
      · cases hm
    · cases hm
  · cases hm
def mkInsert : MK := fun w us => match w, us with
  | .own xs, [.d (.int i), u] => if 0 ≤ i ∧ i ≤ 1000000 ∧ xs.length < 1000000 then some (.d .none, .own (xs.take i.toNat ++ [u] ++ xs.drop i.toNat)) else none
  | _, _ => none
theorem mu_insert : MutOk X "list.insert" mkInsert := by
  refine ⟨_, mt_insert, fun v vs H w us c w' Q ps s hl hm q => ?_⟩
  unfold mkInsert at hm
  split at hm
  · rename_i xs i u
    split at hm
    · rename_i hb
      obtain ⟨rfl, rfl⟩ := Prod.mk.inj (Option.some.inj hm)
      obtain ⟨p, ws, rfl, hp, hlw, s1⟩ := s.openL
      match vs, hl with
      | [y0, y], _ =>
        have s1' : SP X.K H ((y0, U.d (.int i)) :: ((V.ref p, U.hole) :: (ws.zip xs ++ ((y, u) :: ps)))) := s1.perm (by
          refine List.Perm.trans (List.Perm.cons _ ?_) (.swap _ _ _)
          exact front)
        have ey := dp_int (s1'.peek (x := .int i) rfl)
        subst ey
        have hi := i63 (i := i) (by omega)
        refine ⟨p, ws, i, y, rfl, rfl, hp, by rw [hlw]; exact lt_line hb.2.2, hb.1, hi.2, q _ _ ?_⟩
        have ht : (ws.take i.toNat).length = (xs.take i.toNat).length := by rw [List.length_take, List.length_take, hlw]
        have hd : (ws.drop i.toNat).length = (xs.drop i.toNat).length := by rw [List.length_drop, List.length_drop, hlw]
        have ez : (ws.take i.toNat ++ [y] ++ ws.drop i.toNat).zip (xs.take i.toNat ++ [u] ++ xs.drop i.toNat) = (ws.take i.toNat).zip (xs.take i.toNat) ++ [(y, u)] ++ (ws.drop i.toNat).zip (xs.drop i.toNat) := by
          rw [List.zip_append (by simp [ht]), List.zip_append ht]
          rfl
        have eo : ws.zip xs = (ws.take i.toNat).zip (xs.take i.toNat) ++ (ws.drop i.toNat).zip (xs.drop i.toNat) := by
          rw [← List.zip_append ht, List.take_append_drop, List.take_append_drop]
        have s2 : SP X.K H ((V.ref p, U.hole) :: ((ws.take i.toNat ++ [y] ++ ws.drop i.toNat).zip (xs.take i.toNat ++ [u] ++ xs.drop i.toNat) ++ ps)) := by
          refine s1'.tail.perm (List.Perm.cons _ ?_)
          rw [ez, eo]
          refine front.trans ?_
          rw [List.append_assoc, List.append_assoc, List.append_assoc]
          exact front.symm
        have s3 := s2.shutL (by simp [ht, hd])
        exact s3.non.perm (.swap _ _ _)
    · cases hm
  · cases hm
/-! extend by a list -/
def rExtN (K : PySem.W.Frag) : V → List V → Hp → VK → Prop := fun x vs H Q => ∃ l b xs zs, x = .ref l ∧ vs = [.ref b] ∧ H l = some (.lst xs) ∧ LstN K H b zs ∧ xs.length + zs.length ≤ sizeLine ∧ Q .non (upd H l (.lst (xs ++ zs)))
theorem mt_extN : MtR X "list.extend" (rExtN X.K) := by
  rintro pins s σ H x vs v us Q I rx rv ⟨l, b, xs, zs, rfl, rfl, hH, hB, hz, q⟩
  cases rx
  rw [rv.ref1]
  obtain ⟨_, its, n, r, hl, e⟩ := I.lstM hH
  obtain ⟨_, its2, n2, r2, hl2, e2⟩ := hB.at I
  have hsz : its.toArray.size + its2.toArray.size ≤ sizeLine := by rw [List.size_toArray, List.size_toArray, ← hl, ← hl2]; exact hz
  have long : ¬ (!its.toArray.isEmpty && Builtin.List.listTooLong (its.toArray.size + its2.toArray.size)) = true := by
    rw [notLongL hsz, Bool.and_false]; exact Bool.false_ne_true
  have J := I.lset (f := (· ++ its2.toArray)) (its' := its ++ its2) (ys := xs ++ zs) (t' := s.toks) hH e (by simp) (r.append r2) (by rw [List.length_append]; exact hz)
  exact call_meets F.slot_list_extend ⟨_, e, rfl⟩ F.entry_list_extend (F.args_list_extend_2 _ _)
    (AutoSeq1.list_extend_list_list_0 l its.toArray n b its2.toArray n2 long (by omega) (by omega)) ⟨e, e2, .non, _, J, rfl, q⟩
def mkExtend : MK := fun w us => match w, us with
  | .own xs, [.own zs] => if xs.length + zs.length ≤ 1000000 then some (.d .none, .own (xs ++ zs)) else none
  | .own xs, [.d (.list zs)] => if xs.length + zs.length ≤ 1000000 then some (.d .none, .own (xs ++ zs.map .d)) else none
  | _, _ => none
theorem le_line {n : Nat} (h : n ≤ 1000000) : n ≤ sizeLine := by rw [sizeLine_eq]; omega
theorem mu_extend : MutOk X "list.extend" mkExtend := by
  refine ⟨_, mt_extN, fun v vs H w us c w' Q ps s hl hm q => ?_⟩
  have fin : ∀ {p : Addr} {ws : List V} {xs : List U} {zs : List U} {y : V} {b : Addr} {ys : List V}, y = .ref b → LstN X.K H b ys → ys.length = zs.length → H p = some (.lst ws) → ws.length = xs.length → xs.length + zs.length ≤ 1000000 →
      SP X.K H ((V.ref p, U.hole) :: (ws.zip xs ++ (ys.zip zs ++ ps))) → (∀ x H', SP X.K H' ((V.ref p, .own (xs ++ zs)) :: ((x, .d .none) :: ps)) → Q x H') → rExtN X.K (.ref p) [y] H Q := by
    intro p ws xs zs y b ys hy hb hlz hp hlw hn s q
    refine ⟨p, b, ws, ys, rfl, by rw [hy], hp, hb, by rw [hlw, hlz]; exact le_line hn, q _ _ ?_⟩
    have s2 : SP X.K H ((V.ref p, U.hole) :: ((ws ++ ys).zip (xs ++ zs) ++ ps)) := by
      rw [List.zip_append hlw, List.append_assoc]; exact s
    have s3 := s2.shutL (by simp [hlw, hlz])
    exact s3.non.perm (.swap _ _ _)
  unfold mkExtend at hm
  split at hm
  · rename_i xs zs
    split at hm
    · rename_i hz
      obtain ⟨rfl, rfl⟩ := Prod.mk.inj (Option.some.inj hm)
      obtain ⟨p, ws, rfl, hp, hlw, s1⟩ := s.openL
      match vs, hl with
      | [y], _ =>
        have s2 : SP X.K H ((y, U.own zs) :: ((V.ref p, U.hole) :: (ws.zip xs ++ ps))) := s1.perm (by
          refine List.Perm.trans (List.Perm.cons _ ?_) (.swap _ _ _)
          exact front)
        obtain ⟨b, ys, rfl, hb, hlz, s3⟩ := s2.openL
        refine fin (b := b) rfl (.inl (.inl hb)) hlz hp hlw hz ?_ q
        refine s3.tail.perm ?_
        refine front.trans (List.Perm.cons _ ?_)
        exact swapL
    · cases hm
  · rename_i xs zs
    split at hm
    · rename_i hz
      obtain ⟨rfl, rfl⟩ := Prod.mk.inj (Option.some.inj hm)
      obtain ⟨p, ws, rfl, hp, hlw, s1⟩ := s.openL
      match vs, hl with
      | [y], _ =>
        have s2 : SP X.K H ((y, U.d (.list zs)) :: ((V.ref p, U.hole) :: (ws.zip xs ++ ps))) := s1.perm (by
          refine List.Perm.trans (List.Perm.cons _ ?_) (.swap _ _ _)
          exact front)
        obtain ⟨b, ys, rfl, hb, hlz, s3⟩ := s2.itemsLN
        refine fin (b := b) rfl hb (by simpa using hlz) hp hlw (by simpa using hz) ?_ q
        have s4 : SP X.K H (ys.zip (zs.map U.d) ++ ((V.ref p, U.hole) :: (ws.zip xs ++ ps))) := (s3.perm front).tail
        refine s4.perm ?_
        refine front.trans (List.Perm.cons _ ?_)
        exact swapL
    · cases hm
  · cases hm
end
end Vm
end
section
set_option Elab.async false
set_option linter.all false
set_option maxRecDepth 100000
namespace Vm
open PySem L2 PySem.W

/-! ### x[i] = v -/
theorem zip_set2 {vs : List V} {us : List U} {j : Nat} {u : U} (hl : vs.length = us.length) (hu : us[j]? = some u) :
    ∃ v as bs, vs.zip us = as ++ (v, u) :: bs ∧ ∀ y w, (vs.set j y).zip (us.set j w) = as ++ (y, w) :: bs := by
  induction vs generalizing us j with
  | nil =>
    have h0 : us = [] := List.length_eq_zero_iff.mp hl.symm
    subst h0; simp at hu
  | cons a vs ih =>
    cases us with
    | nil => simp at hl
    | cons b us =>
      cases j with
      | zero =>
        simp at hu; subst hu
        exact ⟨a, [], vs.zip us, rfl, fun y w => rfl⟩
      | succ j =>
        obtain ⟨v, as, bs, e1, e2⟩ := ih (us := us) (j := j) (by simpa using hl) (by simpa using hu)
        exact ⟨v, (a, b) :: as, bs, by simp [e1], fun y w => by simp [e2]⟩
def intAt (rb : Rv) (ς : Env) : Option Int := match pk1 (fun d => some d) rb ς with
  | some (.int k) => some k
  | _ => none
theorem intAt_ok {K : PySem.W.Frag} {rb : Rv} {σ : L2.St} {ς : Env} {tp : PL} {H : Hp} {y : V} {k : Int} (s : SR K H σ ς (rb.tmp y ++ tp)) (a : rb.at σ y) (h : intAt rb ς = some k) : y = .int k := by
  unfold intAt at h
  split at h
  · rename_i j hk
    have e := Option.some.inj h
    subst e
    obtain ⟨d, hd, hf⟩ := pk1_ok s a hk
    have e : d = .int j := by simpa using hf
    subst e
    exact dp_int hd
  · cases h
def kSet (i : Nat) (r : List Nat) (k : Int) (u : U) (ς : Env) : Option Env := match getP ς i r with
  | some (.own us) => match ixN us.length k with
    | some j => some (setP ς i r (.own (us.set j u)))
    | none => none
  | _ => none
def gIx (mp : Env → Res (Nat × List Nat)) (mb : Env → Res Rv) : U → Env → Option Env := fun u ς => match mp ς with
  | .ok p ς1 => if p.2 = [] then match mb ς1 with
      | .ok rb ς2 => match intAt rb ς2 with
        | some k => kSet p.1 [] k u ς2
        | none => none
      | _ => none
    else if isOwn (getP ς1 p.1 p.2) then match ς1[p.1]? with
      | some (some w) => match mb (ς1.set p.1 none) with
        | .ok rb ς2 => match intAt rb ς2 with
          | some k => if isNo ς2[p.1]? then kSet p.1 p.2 k u (ς2.set p.1 (some w)) else none
          | none => none
        | _ => none
      | _ => none
    else none
  | _ => none
section
variable {X : Cx} {W : WX} {prot : Nat → Bool} {o e a b : Expr} {es : List Expr} {pos : Pos}
theorem set_end {K : PySem.W.Frag} {H : Hp} {v y : V} {u : U} {us : List U} {k : Int} {j : Nat} {ps : PL} {Q : Hp → Prop} (s : SP K H ((v, .own us) :: ((y, u) :: ps))) (hj : ixN us.length k = some j)
    (q : ∀ H', SP K H' ((v, .own (us.set j u)) :: ps) → Q H') : rSetL v (.int k) y H Q := by
  obtain ⟨p, vs, rfl, hp, hl, s1⟩ := s.openL
  have hjl : j < us.length := (ixN_seq hj).2.1
  obtain ⟨v1, as, bs, e1, e2⟩ := zip_set2 (u := us[j]) hl (by rw [List.getElem?_eq_getElem hjl])
  refine ⟨p, vs, k, j, rfl, rfl, hp, by rw [hl]; exact hj, q _ ?_⟩
  have s2 : SP K H ((v1, us[j]) :: ((V.ref p, U.hole) :: ((vs.set j y).zip (us.set j u) ++ ps))) := by
    rw [e2]
    rw [e1] at s1
    refine s1.perm ?_
    refine List.Perm.trans (List.Perm.cons _ (?_ : List.Perm _ ((v1, us[j]) :: ((as ++ (y, u) :: bs) ++ ps)))) (.swap _ _ _)
    refine (List.Perm.append_right _ front).trans (List.Perm.cons _ ?_)
    refine front.trans ?_
    exact (List.Perm.append_right _ front).symm
  exact s2.tail.shutL (by simp [hl])
theorem dg_ix {mp : Env → Res (Nat × List Nat)} {mb : Env → Res Rv} (ho : DP X W o mp) (hi : DE X W b mb) (ha : ∀ v, assign (.Subscript o b pos) X.env v = (do
      let ov ← holding [v] (eval o X.env)
      let iv ← holding [v, ov] (eval b X.env)
      standAt pos
      holding [v, ov, iv] (setItem ov iv v)
      release [v, ov, iv] []) := by intro _; rfl) : DG X prot (.Subscript o b pos) (gIx mp mb) := by
  refine pg_weak (pg_sub ho hi set_list ha) fun y σ H Q ⟨u, ς, tp, s, o⟩ => ⟨ς, _, s, ?_⟩
  unfold gIx at o
  cases h1 : mp ς with
  | stuck => rw [h1] at o; exact o
  | exc x ς1 => rw [h1] at o; exact o.elim
  | ok p ς1 =>
    obtain ⟨i, r⟩ := p
    rw [h1] at o
    intro v0 v H1 s1 h0 hw
    simp only at o
    split at o
    · rename_i hr
      have hr : r = [] := hr
      subst hr
      have ev : v = v0 := hw
      subst ev
      refine ⟨ς1, _, s1, ?_⟩
      cases h2 : mb ς1 with
      | stuck => rw [h2] at o; exact o.elim
      | exc x ς2 => rw [h2] at o; exact o.elim
      | ok rb ς2 =>
        rw [h2] at o
        intro iv H2 s2 a2
        simp only at o
        split at o
        · rename_i k hk
          have e := intAt_ok s2 a2 hk
          subst e
          have s3 : SR X.K H2 σ ς2 ((y, u) :: tp) := s2.dropL
          unfold kSet at o
          split at o
          · rename_i us hg
            split at o
            · rename_i j hj
              obtain ⟨rest, q, back⟩ := s3.focus1 (r := []) h0 (v := v) rfl hg
              refine set_end (ps := rest ++ (sl σ (ς2.set i none) ++ tp)) (q.perm (List.Perm.cons _ ?_)) hj fun H' q' => o σ H' (back H' _ tp q') (Pr.refl σ)
              refine List.Perm.trans (List.Perm.append_left _ front) front
            · exact o.elim
          · exact o.elim
        · exact o.elim
    · split at o
      · split at o
        · rename_i w hc
          cases hg : getP ς1 i r with
          | none => rename_i hown _; rw [show getP ς1 (i, r).1 (i, r).2 = none from hg] at hown; cases hown
          | some w0 =>
            obtain ⟨rest, s1', back⟩ := s1.focus h0 hw hg
            refine ⟨ς1.set i none, _, s1', ?_⟩
            cases h2 : mb (ς1.set i none) with
            | stuck => rw [h2] at o; exact o.elim
            | exc x ς2 => rw [h2] at o; exact o.elim
            | ok rb ς2 =>
              rw [h2] at o
              intro iv H2 s2 a2
              simp only at o
              split at o
              · rename_i k hk
                have e := intAt_ok s2 a2 hk
                subst e
                split at o
                · rename_i hn
                  have hn : ς2[i]? = some none := isNo_ok hn
                  have hi' : i < ς2.length := (List.getElem?_eq_some_iff.mp hn).1
                  have hcu : (ς2.set i (some w))[i]? = some (some w) := by simp [hi']
                  have hgu : getP (ς2.set i (some w)) i r = some w0 := by
                    unfold getP at hg ⊢
                    rw [hcu]; rw [hc] at hg; exact hg
                  have s3 : SR X.K H2 σ ς2 ((v, w0) :: (rest ++ (y, u) :: tp)) := s2.dropL
                  unfold kSet at o
                  rw [hgu] at o
                  skip
                  split at o
                  · rename_i us hus
                    have e0 : w0 = .own us := Option.some.inj hus
                    subst e0
                    split at o
                    · rename_i j hj
                      refine set_end (K := X.K) (u := u) (ps := rest ++ (sl σ ς2 ++ tp)) ?_ hj fun H' q' => o σ H' ?_ (Pr.refl σ)
                      · refine s3.sp.perm ?_
                        refine front.trans (List.Perm.cons _ ?_)
                        refine swapL.trans ?_
                        refine (List.Perm.append_left _ front).trans front
                      · have s4 : SR X.K H' σ ς2 ((v, .own (us.set j u)) :: (rest ++ tp)) := by
                          refine s3.sub (q'.perm ?_)
                          refine List.Perm.trans (List.Perm.cons _ swapL) front.symm
                        obtain ⟨u', hc', s5⟩ := back H' _ ς2 _ hn s4
                        rw [hc] at hc'; cases hc'
                        have e6 : setP (ς2.set i (some w)) i r (.own (us.set j u)) = ς2.set i (some (w.pt r (.own (us.set j u)))) := by
                          unfold setP; rw [hcu]; exact List.set_set ..
                        rw [e6]
                        exact s5
                    · exact o.elim
                  · exact o.elim
                · exact o.elim
              · exact o.elim
        · exact o.elim
      · exact o.elim
/-- target = value -/
theorem ds_asg {tg : Expr} {m : Env → Res Rv} {g : U → Env → Option Env} (he : DE X W e m) (hg : DG X prot tg g) (hs : swapsWithSole [tg] e pos.line X.env = pure false := by rfl) (hw : swappedStores [tg] e X.env = pure none := by rfl)
    (h1 : (assignEach [tg] X.env).map (·.2) = [assign tg X.env] := by rfl) : DS X W prot (.Assign [tg] e pos) (mAsg m g) :=
  ps_weak (ps_asg he hg hs hw h1) fun D σ H h => asg_ok h
end
end Vm
end
section
set_option Elab.async false
set_option linter.all false
set_option maxRecDepth 100000
namespace Vm
open PySem L2 PySem.W

/-! ### arguments in another sequence -/
def pickL {α : Type} (ix : List Nat) (l : List α) : List α := ix.filterMap fun i => l[i]?
def isPerm (ix : List Nat) (n : Nat) : Bool := ix.isPerm (List.range n)
theorem pick_range {α : Type} (l : List α) : pickL (List.range l.length) l = l := by
  induction l with
  | nil => rfl
  | cons a l ih =>
    unfold pickL at ih ⊢
    rw [List.length_cons, List.range_succ_eq_map, List.filterMap_cons]
    simp only [List.getElem?_cons_zero]
    rw [List.filterMap_map]
    congr 1
theorem pick_perm {α : Type} {ix : List Nat} {l : List α} (h : isPerm ix l.length = true) : (pickL ix l).Perm l := by
  have h1 : ix.Perm (List.range l.length) := List.isPerm_iff.mp h
  have h2 := h1.filterMap fun i => l[i]?
  rw [show (List.range l.length).filterMap (fun i => l[i]?) = l from pick_range l] at h2
  exact h2
theorem pick_zip {α β : Type} (ix : List Nat) : ∀ {l : List α} {m : List β}, l.length = m.length → pickL ix (l.zip m) = (pickL ix l).zip (pickL ix m) := by
  intro l m h
  induction ix with
  | nil => rfl
  | cons i ix ih =>
    unfold pickL at ih ⊢
    rw [List.filterMap_cons, List.filterMap_cons, List.filterMap_cons]
    cases hl : l[i]? with
    | none =>
      have hm : m[i]? = none := by
        rw [List.getElem?_eq_none_iff] at hl ⊢; omega
      have hz : (l.zip m)[i]? = none := by
        rw [List.getElem?_eq_none_iff] at hl ⊢
        rw [List.length_zip]; omega
      rw [hm, hz]; exact ih
    | some a =>
      have hi : i < l.length := (List.getElem?_eq_some_iff.mp hl).1
      have hm : m[i]? = some (m[i]'(by omega)) := by simp [show i < m.length by omega]
      have hz : (l.zip m)[i]? = some (a, m[i]'(by omega)) := by
        rw [List.getElem?_zip_eq_some]; exact ⟨hl, hm⟩
      rw [hm, hz]
      simp only [List.zip_cons_cons]
      rw [ih]
theorem pick_len {α β : Type} (ix : List Nat) {l : List α} {m : List β} (h : l.length = m.length) : (pickL ix l).length = (pickL ix m).length := by
  induction ix with
  | nil => rfl
  | cons i ix ih =>
    unfold pickL at ih ⊢
    rw [List.filterMap_cons, List.filterMap_cons]
    cases hl : l[i]? with
    | none =>
      have hm : m[i]? = none := by
        rw [List.getElem?_eq_none_iff] at hl ⊢; omega
      rw [hm]; exact ih
    | some a =>
      have hi : i < l.length := (List.getElem?_eq_some_iff.mp hl).1
      have hm : m[i]? = some (m[i]'(by omega)) := by simp [show i < m.length by omega]
      rw [hm, List.length_cons, List.length_cons, ih]
theorem vals_pick (ix : List Nat) {vs : List V} {us : List Value} (r : Vals vs us) : Vals (pickL ix vs) (pickL ix us) := by
  induction ix with
  | nil => exact .nil
  | cons i ix ih =>
    unfold pickL at ih ⊢
    rw [List.filterMap_cons, List.filterMap_cons]
    cases hv : vs[i]? with
    | none => rw [r.none_of hv]; exact ih
    | some v =>
      obtain ⟨u, hu, ru⟩ := r.get hv
      rw [hu]
      exact .cons ru ih
def tmpZ (zs : List (Rv × V)) : PL := (zs.map fun z => z.1.tmp z.2).flatten
theorem tmps_zip : ∀ {rs : List Rv} {vs : List V}, tmps rs vs = tmpZ (rs.zip vs)
  | [], _ => by cases ‹List V› <;> rfl
  | _ :: _, [] => rfl
  | r :: rs, v :: vs => by
    show r.tmp v ++ tmps rs vs = r.tmp v ++ tmpZ (rs.zip vs)
    rw [tmps_zip]
theorem tmpZ_perm {zs ws : List (Rv × V)} (h : zs.Perm ws) : (tmpZ zs).Perm (tmpZ ws) := by
  unfold tmpZ
  exact (h.map _).flatten
theorem ats_mem {σ : L2.St} : ∀ {rs : List Rv} {vs : List V}, ats σ rs vs ↔ rs.length = vs.length ∧ ∀ z ∈ rs.zip vs, z.1.at σ z.2
  | [], [] => by simp [ats]
  | [], _ :: _ => by simp [ats]
  | _ :: _, [] => by simp [ats]
  | r :: rs, v :: vs => by
    have ih := ats_mem (σ := σ) (rs := rs) (vs := vs)
    simp only [ats, List.zip_cons_cons, List.length_cons, List.mem_cons, forall_eq_or_imp, ih]
    constructor
    · rintro ⟨a, b, c⟩; exact ⟨by omega, a, c⟩
    · rintro ⟨b, a, c⟩; exact ⟨a, by omega, c⟩
theorem pick_ats {σ : L2.St} {ix : List Nat} {rs : List Rv} {vs : List V} (hi : isPerm ix rs.length = true) (a : ats σ rs vs) : ats σ (pickL ix rs) (pickL ix vs) := by
  obtain ⟨hl, ha⟩ := ats_mem.mp a
  refine ats_mem.mpr ⟨pick_len ix hl, fun z hz => ha z ?_⟩
  rw [← pick_zip ix hl] at hz
  have hp := pick_perm (ix := ix) (l := rs.zip vs) (by rw [List.length_zip, ← hl, Nat.min_self]; exact hi)
  exact hp.mem_iff.mp hz
theorem pick_tmps {ix : List Nat} {rs : List Rv} {vs : List V} (hi : isPerm ix rs.length = true) (hl : rs.length = vs.length) : (tmps rs vs).Perm (tmps (pickL ix rs) (pickL ix vs)) := by
  rw [tmps_zip, tmps_zip, ← pick_zip ix hl]
  exact tmpZ_perm (pick_perm (ix := ix) (l := rs.zip vs) (by rw [List.length_zip, ← hl, Nat.min_self]; exact hi)).symm
/-- keywords' values, as arguments are -/
def DK (X : Cx) (W : WX) (kws : List Keyword) (m : Env → Res (List Rv)) : Prop := PK X kws (LA X.K W m)
section
variable {X : Cx} {W : WX} {e : Expr} {es : List Expr} {kws : List Keyword} {pos : Pos}
theorem dk_nil : DK X W [] mNil := ⟨fun pos pins s σ H Q I h => pk_nil.run pos pins s σ H Q I (by
  obtain ⟨ς, tp, s, o⟩ := h
  exact o [] H s trivial)⟩
theorem la_cons {K : PySem.W.Frag} {m : Env → Res Rv} {ms : Env → Res (List Rv)} {σ : L2.St} {H : Hp} {Q : List V → Hp → Prop} (h : LA K W (mCons m ms) σ H Q) : tCons (LE K W m) (LA K W ms) σ H Q := by
  obtain ⟨ς, tp, s, o⟩ := h
  refine ⟨ς, tp, s, ?_⟩
  unfold mCons at o
  cases h1 : m ς with
  | stuck => rw [h1] at o; exact o
  | exc x ς1 => rw [h1] at o; exact o
  | ok r ς1 =>
    rw [h1, Res.bind_ok] at o
    intro x H1 s1 a1
    refine ⟨ς1, r.tmp x ++ tp, s1, ?_⟩
    cases h2 : ms ς1 with
    | stuck => rw [h2] at o; exact o
    | exc y ς2 =>
      rw [h2] at o
      exact fun cls d H ps sx ex => o cls d H ps ((sx.perm swapL).dropL) ex
    | ok rs ς2 =>
      rw [h2] at o
      exact fun vs H2 s2 a2 => o (x :: vs) H2 (s2.perm (by
        rw [tmps_app, ← List.append_assoc]
        exact List.perm_append_comm.append_right _)) ⟨a1, a2⟩
theorem dk_cons {m : Env → Res Rv} {ms : Env → Res (List Rv)} {nm : Option Str} {kpos : Pos} (ha : DE X W e m) (hr : DK X W kws ms) : DK X W (⟨nm, e, kpos⟩ :: kws) (mCons m ms) :=
  ⟨fun pos pins s σ H Q I h => (pk_cons ha hr).run pos pins s σ H Q I (la_cons h)⟩
/-! f(e, .., k = v, ..) -/
def mApp (ms mk : Env → Res (List Rv)) : Env → Res (List Rv) := fun ς => (ms ς).bind fun rs ς1 => (mk ς1).bind fun ks ς2 => .ok (rs ++ ks) ς2
def mCallK (φ : Phi) (ix : List Nat) (ms mk : Env → Res (List Rv)) : Env → Res Rv := fun ς => (ms ς).bind fun rs ς1 => (mk ς1).bind fun ks ς2 => if isPerm ix (rs ++ ks).length then kCall φ [] (pickL ix (rs ++ ks)) ς2 else .stuck
structure KB (K : PySem.W.Frag) (fd : FuncData) (ps : List Str) (n : Nat) (ks : List Str) (ix : List Nat) : Prop where
  to : ∀ (s : Shared) (us ws : List Value), K.In s.heap → us.length = n → ws.length = ks.length → BindsTo s fd ⟨us, ks.zip ws⟩ (ps.zip (pickL ix (us ++ ws)))
def tCallK (n m : Nat) (ix : List Nat) (sp : Sp) (E : L2.St → XK) (t tk : TA) : TE := fun σ H Q => t σ H fun vs H1 => tk σ H1 fun zs H2 => vs.length = n ∧ zs.length = m ∧ sp (pickL ix (vs ++ zs)) H2 Q (E σ)
variable {CX : CXT} {k n : Nat} {f : Addr} {fd : FuncData} {ps ks : List Str} {sp : Sp} {E : L2.St → XK} {x : Str} {p : Pos} {t tk : TA} {ix : List Nat}
theorem run_K {pins : List (Addr × Obj)} {σ : L2.St} {H : Hp} {s : Shared} {Q : VK} {us ws : List Value} {vs zs : List V}
    (F : FnG X.prog X.w X.K X.mg X.base CX k f fd ps sp) (ng : NoG X.A) (hr : Room k X.A) (hb : KB X.K fd ps n ks ix) (hx : PassesAt CX X σ (E σ))
    (I : Inv X pins σ H s) (r : Vals vs us) (rz : Vals zs ws) (l1 : vs.length = n) (l2 : zs.length = ks.length) (h : sp (pickL ix (vs ++ zs)) H Q (E σ)) :
    wpAny (model X.prog X.w) X.A (call (.ref f) us (ks.zip ws)) (EP X pins σ Q) X.xe s := by
  refine wpAny_call (codeAny_mono (goG F ng hr hx I (hb.to s us ws I.kIn (r.length.symm.trans l1) (rz.length.symm.trans l2)) (vals_pick ix (r.append rz)) h) ?_)
  rintro (e | fl) s' hq
  · exact hq
  · cases fl <;> first | exact hq | exact hq.elim
theorem pe_callK (F : FnG X.prog X.w X.K X.mg X.base CX k f fd ps sp) (ng : NoG X.A) (hr : Room k X.A) (hg : Gl X x) (hm : X.mg x = some (.ref f)) (hk : PySem.W.keepIn X.K (.ref f) = true) (hb : KB X.K fd ps n ks ix) (hx : ∀ σ, PassesAt CX X σ (E σ))
    (ha : PA X (e :: es) t) (hkw : PK X kws tk) (hall : (backToKw pos (keywordEach kws X.env)).all (·.1.isSome) = true := by rfl) (hks : (backToKw pos (keywordEach kws X.env)).filterMap (·.1) = ks := by rfl)
    (hdb : (x == ("__debug__" : Str)) = false := by decide) (he : starEach (e :: es) X.env = (false, eval e X.env) :: starEach es X.env := by rfl)
    (hpl : ((backTo pos (starEach (e :: es) X.env)).any (·.1) || (backToKw pos (keywordEach kws X.env)).any (·.1.isNone)) = false := by rfl) :
    PE X (.Call (.Name x p) (e :: es) kws pos) (tCallK n ks.length ix sp E t tk) := by
  refine ⟨fun pins s σ H Q I h => wpAny_Call_Name_kw (ld_glob I hg hm ?_ hdb)⟩
  refine PySem.W.callWith_KW (h₀ := X.base) I.ok.mod.kin hk hall (thn (ha.run pos pins s σ H _ I h) ?_) hpl he
  rintro us s1 ⟨vs, H1, I1, r, q⟩
  refine thn (hkw.run pos pins s1 σ H1 _ I1 q) ?_
  rintro ws s2 ⟨zs, H2, I2, rz, l1, l2, q2⟩
  rw [hks]
  exact ⟨I2.kIn, run_K F ng hr hb (hx σ) I2 r rz l1 l2 q2⟩
theorem pe_callK0 (F : FnG X.prog X.w X.K X.mg X.base CX k f fd ps sp) (ng : NoG X.A) (hr : Room k X.A) (hg : Gl X x) (hm : X.mg x = some (.ref f)) (hk : PySem.W.keepIn X.K (.ref f) = true) (hb : KB X.K fd ps 0 ks ix) (hx : ∀ σ, PassesAt CX X σ (E σ))
    (hkw : PK X kws tk) (hall : (backToKw pos (keywordEach kws X.env)).all (·.1.isSome) = true := by rfl) (hks : (backToKw pos (keywordEach kws X.env)).filterMap (·.1) = ks := by rfl)
    (hdb : (x == ("__debug__" : Str)) = false := by decide) (hpl : ((backTo pos (starEach [] X.env)).any (·.1) || (backToKw pos (keywordEach kws X.env)).any (·.1.isNone)) = false := by rfl) :
    PE X (.Call (.Name x p) [] kws pos) (tCallK 0 ks.length ix sp E tNil tk) := by
  refine ⟨fun pins s σ H Q I h => wpAny_Call_Name_kw (ld_glob I hg hm ?_ hdb)⟩
  refine PySem.W.callWith_KW0 (h₀ := X.base) I.ok.mod.kin hk hall ?_ hpl
  refine thn (hkw.run pos pins s σ H _ I h) ?_
  rintro ws s2 ⟨zs, H2, I2, rz, l1, l2, q2⟩
  rw [hks]
  exact ⟨I2.kIn, run_K F ng hr hb (hx σ) I2 .nil rz l1 l2 q2⟩
theorem ats_app {σ : L2.St} : ∀ {rs ks : List Rv} {vs zs : List V}, ats σ rs vs → ats σ ks zs → ats σ (rs ++ ks) (vs ++ zs)
  | [], _, [], _, _, h => h
  | _ :: _, _, _ :: _, _, a, h => ⟨a.1, ats_app a.2 h⟩
theorem tmps_app2 : ∀ {rs ks : List Rv} {vs zs : List V}, rs.length = vs.length → tmps (rs ++ ks) (vs ++ zs) = tmps rs vs ++ tmps ks zs
  | [], _, [], _, _ => rfl
  | r :: rs, ks, v :: vs, zs, h => by
    show r.tmp v ++ tmps (rs ++ ks) (vs ++ zs) = (r.tmp v ++ tmps rs vs) ++ tmps ks zs
    rw [tmps_app2 (by simpa using h), List.append_assoc]
theorem callK_ok {φ : Phi} {ms mk : Env → Res (List Rv)} {j : Nat} (hn : ∀ ς rs ς', ms ς = .ok rs ς' → rs.length = n) (hm : ∀ ς rs ς', mk ς = .ok rs ς' → rs.length = j) (hj : n + j = ps.length) {σ : L2.St} {H : Hp} {Q : VK}
    (h : LE X.K W (mCallK φ ix ms mk) σ H Q) : tCallK n j ix (spV X.K ps.length φ) (fun σ cls d H => W cls d σ H) (LA X.K W ms) (LA X.K W mk) σ H Q := by
  obtain ⟨ς, tp, s, o⟩ := h
  refine ⟨ς, tp, s, ?_⟩
  unfold mCallK at o
  cases h1 : ms ς with
  | stuck => rw [h1] at o; exact o
  | exc x ς1 => rw [h1] at o; exact o
  | ok rs ς1 =>
    rw [h1, Res.bind_ok] at o
    intro vs H1 s1 a1
    refine ⟨ς1, _, s1, ?_⟩
    cases h2 : mk ς1 with
    | stuck => rw [h2] at o; exact o
    | exc x ς2 =>
      rw [h2] at o
      exact fun cls d H ps sx ex => o cls d H ps ((sx.perm swapL).dropL) ex
    | ok ks ς2 =>
      rw [h2, Res.bind_ok] at o
      intro zs H2 s2 a2
      split at o
      · rename_i hi
        have l1 := a1.length
        have l2 := a2.length
        have hl : (rs ++ ks).length = (vs ++ zs).length := by simp [l1, l2]
        have s3 : SR X.K H2 σ ς2 (tmps (pickL ix (rs ++ ks)) (pickL ix (vs ++ zs)) ++ tp) := by
          refine s2.perm ?_
          refine List.Perm.trans ?_ ((pick_tmps hi hl).append_right tp)
          rw [tmps_app2 l1.symm, List.append_assoc]
          exact swapL
        refine ⟨l1.trans (hn ς rs ς1 h1), l2.trans (hm ς1 ks ς2 h2), ?_⟩
        have o2 := call_out (W := W) (k := 0) (φ := φ) (dvs := []) (ds := []) (n := ps.length) dvU_nil ?_ s3 (pick_ats hi (ats_app a1 a2)) o
        · rw [List.append_nil] at o2
          exact o2
        · have e1 : (pickL ix (rs ++ ks)).length = (rs ++ ks).length := (pick_perm hi).length_eq
          rw [e1, List.length_append, hn ς rs ς1 h1, hm ς1 ks ς2 h2, List.length_nil]
          omega
      · exact o.elim
theorem de_callK {φ : Phi} {ms mk : Env → Res (List Rv)} (F : FnG X.prog X.w X.K X.mg X.base (L2.CX X.prog X.w) k f fd ps (spV X.K ps.length φ)) (ng : NoG X.A) (hr : Room k X.A) (hg : Gl X x) (hm : X.mg x = some (.ref f)) (hk : PySem.W.keepIn X.K (.ref f) = true)
    (hb : KB X.K fd ps n ks ix) (tk : Tk X W) (ha : DA X W (e :: es) ms) (hkw : DK X W kws mk) (h1 : ∀ ς rs ς', ms ς = .ok rs ς' → rs.length = n) (h2 : ∀ ς rs ς', mk ς = .ok rs ς' → rs.length = ks.length) (h3 : n + ks.length = ps.length)
    (hall : (backToKw pos (keywordEach kws X.env)).all (·.1.isSome) = true := by rfl) (hks : (backToKw pos (keywordEach kws X.env)).filterMap (·.1) = ks := by rfl)
    (hdb : (x == ("__debug__" : Str)) = false := by decide) (he : starEach (e :: es) X.env = (false, eval e X.env) :: starEach es X.env := by rfl)
    (hpl : ((backTo pos (starEach (e :: es) X.env)).any (·.1) || (backToKw pos (keywordEach kws X.env)).any (·.1.isNone)) = false := by rfl) :
    DE X W (.Call (.Name x p) (e :: es) kws pos) (mCallK φ ix ms mk) :=
  pe_weak (pe_callK (E := fun σ cls d H => W cls d σ H) F ng hr hg hm hk hb tk ha hkw hall hks hdb he hpl) fun σ H Q h => callK_ok h1 h2 h3 h
theorem de_callK0 {φ : Phi} {mk : Env → Res (List Rv)} (F : FnG X.prog X.w X.K X.mg X.base (L2.CX X.prog X.w) k f fd ps (spV X.K ps.length φ)) (ng : NoG X.A) (hr : Room k X.A) (hg : Gl X x) (hm : X.mg x = some (.ref f)) (hk : PySem.W.keepIn X.K (.ref f) = true)
    (hb : KB X.K fd ps 0 ks ix) (tk : Tk X W) (hkw : DK X W kws mk) (h2 : ∀ ς rs ς', mk ς = .ok rs ς' → rs.length = ks.length) (h3 : ks.length = ps.length)
    (hall : (backToKw pos (keywordEach kws X.env)).all (·.1.isSome) = true := by rfl) (hks : (backToKw pos (keywordEach kws X.env)).filterMap (·.1) = ks := by rfl)
    (hdb : (x == ("__debug__" : Str)) = false := by decide) (hpl : ((backTo pos (starEach [] X.env)).any (·.1) || (backToKw pos (keywordEach kws X.env)).any (·.1.isNone)) = false := by rfl) :
    DE X W (.Call (.Name x p) [] kws pos) (mCallK φ ix mNil mk) :=
  pe_weak (pe_callK0 (E := fun σ cls d H => W cls d σ H) F ng hr hg hm hk hb tk hkw hall hks hdb hpl) fun σ H Q h => by
    have q := callK_ok (W := W) (n := 0) (ps := ps) mNil_len h2 (by omega) h
    obtain ⟨ς, tp, s, o⟩ := q
    exact o [] H s trivial
/-- f(), no parameters -/
theorem de_call0 {φ : Phi} (F : FnG X.prog X.w X.K X.mg X.base (L2.CX X.prog X.w) k f fd [] (spV X.K 0 φ)) (ng : NoG X.A) (hr : Room k X.A) (hg : Gl X x) (hm : X.mg x = some (.ref f)) (hk : PySem.W.keepIn X.K (.ref f) = true)
    (hb : Binds X.K fd [] []) (tk : Tk X W) (hdb : (x == ("__debug__" : Str)) = false := by decide) : DE X W (.Call (.Name x p) [] [] pos) (mCall φ [] mNil) := by
  refine ⟨fun pins s σ H Q I h => wpAny_Call_Name_kw (ld_glob I hg hm ?_ hdb)⟩
  obtain ⟨ς, tp, sr, o⟩ := h
  have q := call_out (W := W) (k := 0) (φ := φ) (dvs := []) (ds := []) (n := 0) (rs := []) (vs := []) dvU_nil rfl sr trivial o
  exact PySem.W.callWith_K0 I.kIn hk (run_G (E := fun σ cls d H => W cls d σ H) (us := []) F ng hr hb .nil (tk σ) I .nil q)
end
end Vm
end
section
set_option Elab.async false
set_option linter.all false
set_option maxRecDepth 100000
namespace Vm
open PySem L2 PySem.W

/-! ### enumerate and zip of lists and tuples -/
def SqY (K : PySem.W.Frag) (t : Bool) (H : Hp) (a : Addr) (xs : List V) : Prop := match t with
  | false => SqL K H a xs
  | true => SqT K H a xs
def itrO (t : Bool) (a : Addr) : Obj := match t with
  | false => { cls := .type "list_iterator", data := .fields #[.ref a, .int 0 0] }
  | true => { cls := .type "tuple_iterator", data := .fields #[.ref a, .int 0 0] }
def IsX (t : Bool) (h : Heap) (a : Addr) (its : Array Value) : Prop := match t with
  | false => h.IsList a its
  | true => h.IsTuple a its
def ItrX (t : Bool) (h : Heap) (it a : Addr) (i : Nat) : Prop := match t with
  | false => h.IsListIter it a i
  | true => h.IsTupleIter it a i
theorem SqX.y {K : PySem.W.Frag} {t : Bool} {H : Hp} {a : Addr} {xs : List V} (h : SqX K t H a xs) : SqY K t H a xs := by
  cases t
  · exact LstN.seq h
  · exact TupN.seq h
section
variable {X : Cx} {pins : List (Addr × Obj)} {σ : L2.St} {H : Hp} {s : Shared} {a : Addr} {xs ys : List V} {t : Bool}
theorem sqy_at (I : Inv X pins σ H s) (h : SqY X.K t H a xs) : ∃ its : List Value, Vals xs its ∧ IsX t s.heap a its.toArray ∧ xs.length ≤ sizeLine := by
  cases t
  · obtain ⟨its, r, p, z⟩ := I.list h
    exact ⟨its, r, p.isList, z⟩
  · exact I.tuple h
theorem sqy_inj (I : Inv X pins σ H s) (h : SqY X.K t H a xs) (g : SqY X.K t H a ys) : xs = ys := by
  cases t
  · exact I.list_inj h g
  · exact I.tuple_inj h g
theorem begX (t : Bool) (a : Addr) (its : Array Value) : Begins (.ref a) (itrO t a) fun h => IsX t h a its := by
  cases t
  · exact begins_list a its
  · exact begins_tuple a its
theorem itrX_new {h : Heap} {it : Addr} (e : h.get? it = some (itrO t a)) : ItrX t h it a 0 := by
  cases t
  · exact ⟨_, e, rfl, rfl⟩
  · exact ⟨_, e, rfl, rfl⟩
theorem itrX_obj {h : Heap} {it : Addr} {i : Nat} (e : ItrX t h it a i) : ∃ o, h.get? it = some o ∧ ∀ v, o.data ≠ .cell v := by
  cases t
  · obtain ⟨o, e, _, d⟩ := e; exact ⟨o, e, fun v z => by rw [d] at z; cases z⟩
  · obtain ⟨o, e, _, d⟩ := e; exact ⟨o, e, fun v z => by rw [d] at z; cases z⟩
theorem itrX_keep {h h' : Heap} {it : Addr} {i : Nat} (e : ItrX t h it a i) (k : ∀ o, h.get? it = some o → h'.get? it = some o) : ItrX t h' it a i := by
  cases t
  · exact Heap.IsListIter.at e k
  · exact Heap.IsTupleIter.at e k
theorem isX_lt {h : Heap} {its : Array Value} (e : IsX t h a its) : a < h.objs.size := by
  cases t
  · obtain ⟨o, e, _⟩ := e; exact Heap.lt_size e
  · obtain ⟨o, e, _⟩ := e; exact Heap.lt_size e
theorem drawsX {prog : Program} {w : World} {A : Around} (t : Bool) (hh : A.handled = none) (it a : Addr) (hne : a ≠ it) (its : Array Value) :
    Draws prog w A it [it, a] its.size (fun i v => its[i]? = some v) (fun i h => ItrX t h it a i ∧ IsX t h a its) := by
  cases t
  · exact Draws.list hh it a hne its
  · exact Draws.tuple hh it a hne its
end
/-- items of one source, counted -/
def ItE (K : PySem.W.Frag) (t : Bool) (a : Addr) : It :=
  ⟨fun i H => ∃ (xs : List V) (x : V), SqY K t H a xs ∧ xs[i]? = some x,
   fun i H v H' => ∃ T x, v = .ref T ∧ H T = none ∧ H' = upd H T (.tup [.int (i : Nat), x]) ∧ ∀ xs, SqY K t H a xs → xs[i]? = some x,
   fun i H => ∃ xs : List V, SqY K t H a xs ∧ xs.length = i⟩
theorem two_line : 2 ≤ sizeLine := by rw [sizeLine_eq]; decide
theorem three_line : 3 ≤ sizeLine := by rw [sizeLine_eq]; decide
theorem turnE {P : Program} {w : World} {K : PySem.W.Frag} {elts : List Expr} {kk : Nat} {tpos : Pos} (t : Bool) (a e it : Addr) (hne : e ≠ it) (hea : e ≠ a) (hia : it ≠ a) :
    Turn P w K (.Tuple elts kk tpos) (ItE K t a) [e, it] e (fun i h => (∃ old, IsEnum h e it ((0 : Int) + (i : Nat)) old) ∧ ItrX t h it a i) where
  mem := by simp
  obj := fun i h st b hb => by
    obtain ⟨⟨old, he⟩, hi⟩ := st
    have e' : b = e ∨ b = it := by simpa using hb
    rcases e' with z | z
    · rw [z]; exact ⟨_, he, fun v q => nomatch q⟩
    · rw [z]; exact itrX_obj hi
  keep := fun i h h' st k => by
    obtain ⟨⟨old, he⟩, hi⟩ := st
    exact ⟨⟨old, k e (by simp) _ he⟩, itrX_keep hi fun o q => k it (by simp) o q⟩
  item := by
    intro X hP hw hK hc i pins s σ H E I hf st hg
    subst hP hw hK
    obtain ⟨xs, x, hq, hx⟩ := hg
    obtain ⟨its, rv, p, hz⟩ := sqy_at I hq
    obtain ⟨u, hu, ru⟩ := rv.get hx
    have D := drawsX (prog := X.prog) (w := X.w) (A := X.A.in1) t (I.ok.hd hc) it a (Ne.symm hia) its.toArray
    have G := GoesN.enumFrom (prog := X.prog) (w := X.w) (A := X.A) (elts := elts) (x1 := kk) (pos := tpos) 0 D e hne (by simp [hne, hea]) (by simp)
    have hi : i < its.toArray.size := by simpa using (List.getElem?_eq_some_iff.mp hu).1
    refine wpAny_mono (G.goes i s (fun v s2 => ∃ x H', Inv X pins σ H' s2 ∧ RelV x v ∧ (ItE X.K t a).yld i H x H' ∧ ((∃ old, IsEnum s2.heap e it ((0 : Int) + ((i + 1 : Nat))) old) ∧ ItrX t s2.heap it a (i + 1)) ∧ ∀ b ∈ [e, it], H' b = none) E hi ⟨st.1, st.2, p⟩ ?_) (fun r s1 q => q) (fun _ _ q => q)
    rintro v h' tk ⟨T, tt, x', rfl, hT, hx', hTup⟩ st' hk htk
    have ex : x' = u := by
      have h1 : its.toArray[i]? = some u := by simpa using hu
      rw [h1] at hx'; exact (Option.some.inj hx').symm
    subst ex
    have hn : H T = none := I.hok.fresh hT
    have new : ObjOk X.prog X.w (upd H T (.tup [.int (i : Nat), x])) h' T (.tup [.int (i : Nat), x]) := by
      refine ⟨two_line, [.int ((0 : Int) + (i : Nat)) tt, x'], .cons ⟨tt, by simp⟩ (.cons ru .nil), ?_⟩
      exact hTup
    have J := I.turnedNew (t' := tk) (ch := [e, it]) (h' := h') hk hf hT new
    refine ⟨.ref T, _, J, rfl, ⟨T, x, rfl, hn, rfl, fun ys hy => by rw [sqy_inj I hy hq]; exact hx⟩, ⟨st'.1, st'.2.1⟩, fun b hb => ?_⟩
    have hbt : b ≠ T := fun z => by
      obtain ⟨o, ho, _⟩ : ∃ o, s.heap.get? b = some o ∧ ∀ v, o.data ≠ .cell v := by
        have e' : b = e ∨ b = it := by simpa using hb
        rcases e' with z | z
        · obtain ⟨old, he⟩ := st.1; rw [z]; exact ⟨_, he, fun v q => nomatch q⟩
        · rw [z]; exact itrX_obj st.2
      exact absurd (z ▸ Heap.lt_size ho) (Nat.not_lt.mpr hT)
    rw [upd_ne hbt]
    exact (hf b hb).1
  done := by
    intro X hP hw hK hc i pins s σ H E I hf st hg
    subst hP hw hK
    obtain ⟨xs, hq, hx⟩ := hg
    obtain ⟨its, rv, p, hz⟩ := sqy_at I hq
    have D := drawsX (prog := X.prog) (w := X.w) (A := X.A.in1) t (I.ok.hd hc) it a (Ne.symm hia) its.toArray
    have G := GoesN.enumFrom (prog := X.prog) (w := X.w) (A := X.A) (elts := elts) (x1 := kk) (pos := tpos) 0 D e hne (by simp [hne, hea]) (by simp)
    have hn : its.toArray.size = i := by rw [List.size_toArray, ← rv.length]; exact hx
    subst hn
    exact G.stops s _ E ⟨st.1, st.2, p⟩ fun h' tk k _ => I.turnedL (t' := tk) (ch := [e, it]) k hf
  self := fun A i s Q E st h => by
    obtain ⟨⟨old, he⟩, _⟩ := st
    exact wpAny_pyIter_enum he h
def iE (K : PySem.W.Frag) (ta : TA) : TI := fun σ H R => ta σ H fun vs H1 => ∃ t a xs, vs = [.ref a] ∧ SqY K t H1 a xs ∧ R (ItE K t a) H1
set_option maxHeartbeats 1000000 in
theorem meets_enum1 {v : Value} {o : Obj} {H : Heap → Prop} (B : Begins v o H) :
    Meets (Builtin.«enumerate.__new__» ⟨[.type "enumerate", v], []⟩) (fun _ R s => H s.heap ∧
      R (.ok (.ret (.ref (s.heap.push o).objs.size))) { s with heap := (s.heap.push o).push { cls := .type "enumerate", data := .fields #[.none, .bool false, .ref s.heap.objs.size, rawInt 0, .none, .none] } }) :=
  .of_wp fun prog w A R s h => by
    obtain ⟨hp, g, d, tk, os⟩ := s
    obtain ⟨h1, h⟩ := h
    have hsub := sub_enumerate
    have q1 : ∀ {A' : Around} {E : Value → Shared → Prop} {Q : Value → Shared → Prop}, Q (.ref hp.objs.size) ⟨hp.push o, g, d, tk, os⟩ → wpAny (model prog w) A' (pyIter v) Q E ⟨hp, g, d, tk, os⟩ :=
      fun q => B.iter prog w _ _ ⟨hp, g, d, tk, os⟩ _ h1 q
    wp_walk using q1
    refine wpAny_stack_any fun st => wpAny_pure ?_
    split
    · rename_i c _ _ _ _ _
      cases (c == Value.type "enumerate") <;> (wp_walk using q1; exact ⟨_, rfl, h⟩)
    · wp_walk using q1
      exact ⟨_, rfl, h⟩
theorem call_enum1 {prog : Program} {w : World} {A : Around} {E : Value → Shared → Prop} {s : Shared} {v : Value} {o : Obj} {H : Heap → Prop} {Q : Value → Shared → Prop} (B : Begins v o H) (h1 : H s.heap)
    (h : ∀ h', IsEnum h' (s.heap.objs.size + 1) s.heap.objs.size 0 .none → h'.get? s.heap.objs.size = some o → (∀ b o, s.heap.get? b = some o → h'.get? b = some o) → Q (.ref (s.heap.objs.size + 1)) { s with heap := h' }) :
    wpAny (model prog w) A (call (.type "enumerate") [v]) Q E s := by
  refine callType_new F.called_enumerate (by decide) (F.typeCall_enumerate_1 _) (F.newCall_enumerate_1 _) (fun obj => F.args_object_init_2 obj _) F.entry_enumerate_new (meets_enum1 B) ⟨h1, ?_⟩
  have hz : (s.heap.push o).objs.size = s.heap.objs.size + 1 := Heap.size_push ..
  have he := Heap.get?_push_size (s.heap.push o) (o := { cls := .type "enumerate", data := .fields #[.none, .bool false, .ref s.heap.objs.size, rawInt 0, .none, .none] }) rfl
  show _ ∧ _
  rw [hz] at he ⊢
  exact ⟨⟨_, he, rfl⟩, h _ he (Heap.get?_push_of_some _ (Heap.get?_push_size _ B.free)) fun b o x => Heap.get?_push_of_some _ (Heap.get?_push_of_some _ x)⟩
theorem pi_enumX {X : Cx} {e : Expr} {ta : TA} {p pos tpos : Pos} {elts : List Expr} {kk : Nat} (hg : Gl X "enumerate") (hm : X.mg "enumerate" = none) (ha : PA X [e] ta) (hs : starEach [e] X.env = [(false, eval e X.env)] := by rfl) :
    PI X (.Tuple elts kk tpos) (.Call (.Name "enumerate" p) [e] [] pos) (iE X.K ta) := by
  refine ⟨fun pins s σ H R I h => PyProof.Rows.Call_ (ld_blt I hg hm PyProof.Rows.boot_enumerate (PyProof.Rows.callWith_type1 (thn (ha.run pos pins s σ H _ I h) ?_) hs rfl))⟩
  rintro us s1 ⟨vs, H1, I1, r1, t, a, xs, rfl, hq, q⟩
  rw [r1.ref1]
  obtain ⟨its, rv, p1, _⟩ := sqy_at I1 hq
  have la := isX_lt p1
  refine call_enum1 (begX t a its.toArray) p1 fun h' he hit hk => wpAny_pyIter_enum he ?_
  have I2 : Inv X pins σ H1 { s1 with heap := h' } := I1.kept (t' := s1.toks) hk
  refine ⟨s1.heap.objs.size + 1, [s1.heap.objs.size + 1, s1.heap.objs.size], _, _, H1, rfl, I2, turnE t a (s1.heap.objs.size + 1) s1.heap.objs.size (Nat.succ_ne_self _) (Nat.ne_of_gt (Nat.lt_succ_of_lt la)) (Nat.ne_of_gt la), ⟨⟨.none, he⟩, itrX_new hit⟩, fun b hb => ?_, q⟩
  have hle : s1.heap.objs.size ≤ b := by
    have e' : b = s1.heap.objs.size + 1 ∨ b = s1.heap.objs.size := by simpa using hb
    rcases e' with z | z
    · rw [z]; exact Nat.le_succ _
    · rw [z]; exact Nat.le_refl _
  exact I1.fpOk hle (I1.hok.fresh hle)
end Vm
end
section
set_option Elab.async false
set_option linter.all false
set_option maxRecDepth 100000
namespace Vm
open PySem L2 PySem.W

/-! ### zip of two -/
def ItZ (K : PySem.W.Frag) (t u : Bool) (a b : Addr) : It :=
  ⟨fun i H => ∃ (xs ys : List V) (x y : V), SqY K t H a xs ∧ SqY K u H b ys ∧ xs[i]? = some x ∧ ys[i]? = some y,
   fun i H v H' => ∃ T x y, v = .ref T ∧ H T = none ∧ H' = upd H T (.tup [x, y]) ∧ (∀ xs, SqY K t H a xs → xs[i]? = some x) ∧ ∀ ys, SqY K u H b ys → ys[i]? = some y,
   fun i H => ∃ xs ys : List V, SqY K t H a xs ∧ SqY K u H b ys ∧ min xs.length ys.length = i⟩
theorem turnZ {P : Program} {w : World} {K : PySem.W.Frag} {elts : List Expr} {kk : Nat} {tpos : Pos} {t u : Bool} {a b z TI TO i1 i2 : Addr} (S : ZipSep2 z TI TO i1 i2 [i1, a] [i2, b]) (ha : a ≠ i1) (hb : b ≠ i2) :
    Turn P w K (.Tuple elts kk tpos) (ItZ K t u a b) [z, TI, TO, i1, i2] z (fun i h => IsZip h z TI TO .none ∧ IsTupOf2 h TI (.ref i1) (.ref i2) ∧ (∃ x y, IsTupOf2 h TO x y) ∧ ItrX t h i1 a i ∧ ItrX u h i2 b i) where
  mem := by simp
  obj := fun i h st c hc => by
    obtain ⟨hz, hTI, ⟨x, y, hTO⟩, h1, h2⟩ := st
    have e' : c = z ∨ c = TI ∨ c = TO ∨ c = i1 ∨ c = i2 := by simpa using hc
    rcases e' with q | q | q | q | q
    · rw [q]; exact ⟨_, hz, fun v q => nomatch q⟩
    · rw [q]; exact ⟨_, hTI, fun v q => nomatch q⟩
    · rw [q]; exact ⟨_, hTO, fun v q => nomatch q⟩
    · rw [q]; exact itrX_obj h1
    · rw [q]; exact itrX_obj h2
  keep := fun i h h' st k => by
    obtain ⟨hz, hTI, ⟨x, y, hTO⟩, h1, h2⟩ := st
    exact ⟨k z (by simp) _ hz, k TI (by simp) _ hTI, ⟨x, y, k TO (by simp) _ hTO⟩, itrX_keep h1 fun o q => k i1 (by simp) o q, itrX_keep h2 fun o q => k i2 (by simp) o q⟩
  item := by
    intro X hP hw hK hc i pins s σ H E I hf st hg
    subst hP hw hK
    obtain ⟨xs, ys, x, y, hqx, hqy, hx, hy⟩ := hg
    obtain ⟨its, rv, p, _⟩ := sqy_at I hqx
    obtain ⟨its2, rv2, p2, _⟩ := sqy_at I hqy
    obtain ⟨v1, hv1, ru⟩ := rv.get hx
    obtain ⟨v2, hv2, ru2⟩ := rv2.get hy
    have D1 := drawsX (prog := X.prog) (w := X.w) (A := X.A.in1) t (I.ok.hd hc) i1 a ha its.toArray
    have D2 := drawsX (prog := X.prog) (w := X.w) (A := X.A.in1) u (I.ok.hd hc) i2 b hb its2.toArray
    have G := GoesN.zip2 (prog := X.prog) (w := X.w) (A := X.A) (elts := elts) (x1 := kk) (pos := tpos) S D1 D2
    have hi : i < min its.toArray.size its2.toArray.size := by
      have a1 : i < its.length := (List.getElem?_eq_some_iff.mp hv1).1
      have a2 : i < its2.length := (List.getElem?_eq_some_iff.mp hv2).1
      simp only [List.size_toArray]; omega
    obtain ⟨hz, hTI, hTO, h1, h2⟩ := st
    refine wpAny_mono (G.goes i s (fun v s2 => ∃ x H', Inv X pins σ H' s2 ∧ RelV x v ∧ (ItZ X.K t u a b).yld i H x H' ∧ (IsZip s2.heap z TI TO .none ∧ IsTupOf2 s2.heap TI (.ref i1) (.ref i2) ∧ (∃ x y, IsTupOf2 s2.heap TO x y) ∧ ItrX t s2.heap i1 a (i + 1) ∧ ItrX u s2.heap i2 b (i + 1)) ∧ ∀ b ∈ [z, TI, TO, i1, i2], H' b = none) E hi ⟨hz, hTI, hTO, ⟨h1, p⟩, ⟨h2, p2⟩⟩ ?_) (fun r s1 q => q) (fun _ _ q => q)
    rintro v h' tk ⟨T, x', y', rfl, hT, hx', hy', hTup⟩ ⟨hz', hTI', hTO', ⟨h1', _⟩, ⟨h2', _⟩⟩ hk htk
    have ex : x' = v1 := by
      have q : its.toArray[i]? = some v1 := by simpa using hv1
      rw [q] at hx'; exact (Option.some.inj hx').symm
    have ey : y' = v2 := by
      have q : its2.toArray[i]? = some v2 := by simpa using hv2
      rw [q] at hy'; exact (Option.some.inj hy').symm
    subst ex ey
    have hn : H T = none := I.hok.fresh hT
    have new : ObjOk X.prog X.w (upd H T (.tup [x, y])) h' T (.tup [x, y]) := ⟨two_line, [x', y'], .cons ru (.cons ru2 .nil), hTup⟩
    have sub : ∀ c ∈ [z, TO, i1, i2], c ∈ [z, TI, TO, i1, i2] := fun c hc => by
      have e' : c = z ∨ c = TO ∨ c = i1 ∨ c = i2 := by simpa using hc
      rcases e' with q | q | q | q <;> rw [q] <;> simp
    have J := I.turnedNew (t' := tk) (ch := [z, TO, i1, i2]) (h' := h') hk (fun c hc => hf c (sub c hc)) hT new
    refine ⟨.ref T, _, J, rfl, ⟨T, x, y, rfl, hn, rfl, fun l hl => by rw [sqy_inj I hl hqx]; exact hx, fun l hl => by rw [sqy_inj I hl hqy]; exact hy⟩, ⟨hz', hTI', hTO', h1', h2'⟩, fun c hcm => ?_⟩
    have hct : c ≠ T := fun zz => by
      have ho : ∃ o, s.heap.get? c = some o := by
        have e' : c = z ∨ c = TI ∨ c = TO ∨ c = i1 ∨ c = i2 := by simpa using hcm
        rcases e' with q | q | q | q | q
        · rw [q]; exact ⟨_, hz⟩
        · rw [q]; exact ⟨_, hTI⟩
        · rw [q]; obtain ⟨_, _, e⟩ := hTO; exact ⟨_, e⟩
        · rw [q]; obtain ⟨o, e, _⟩ := itrX_obj h1; exact ⟨o, e⟩
        · rw [q]; obtain ⟨o, e, _⟩ := itrX_obj h2; exact ⟨o, e⟩
      obtain ⟨o, ho⟩ := ho
      exact absurd (zz ▸ Heap.lt_size ho) (Nat.not_lt.mpr hT)
    rw [upd_ne hct]
    exact (hf c hcm).1
  done := by
    intro X hP hw hK hc i pins s σ H E I hf st hg
    subst hP hw hK
    obtain ⟨xs, ys, hqx, hqy, hend⟩ := hg
    obtain ⟨its, rv, p, _⟩ := sqy_at I hqx
    obtain ⟨its2, rv2, p2, _⟩ := sqy_at I hqy
    have D1 := drawsX (prog := X.prog) (w := X.w) (A := X.A.in1) t (I.ok.hd hc) i1 a ha its.toArray
    have D2 := drawsX (prog := X.prog) (w := X.w) (A := X.A.in1) u (I.ok.hd hc) i2 b hb its2.toArray
    have G := GoesN.zip2 (prog := X.prog) (w := X.w) (A := X.A) (elts := elts) (x1 := kk) (pos := tpos) S D1 D2
    have hn : min its.toArray.size its2.toArray.size = i := by rw [List.size_toArray, List.size_toArray, ← rv.length, ← rv2.length]; exact hend
    subst hn
    obtain ⟨hz, hTI, hTO, h1, h2⟩ := st
    have sub : ∀ c ∈ [z, TO, i1, i2], c ∈ [z, TI, TO, i1, i2] := fun c hc => by
      have e' : c = z ∨ c = TO ∨ c = i1 ∨ c = i2 := by simpa using hc
      rcases e' with q | q | q | q <;> rw [q] <;> simp
    exact G.stops s _ E ⟨hz, hTI, hTO, ⟨h1, p⟩, ⟨h2, p2⟩⟩ fun h' tk k _ => I.turnedL (t' := tk) (ch := [z, TO, i1, i2]) k fun c hc => hf c (sub c hc)
  self := fun A i s Q E st h => wpAny_pyIter_zip st.1 h
def iZ (K : PySem.W.Frag) (ta : TA) : TI := fun σ H R => ta σ H fun vs H1 => ∃ t u a b xs ys, vs = [.ref a, .ref b] ∧ SqY K t H1 a xs ∧ SqY K u H1 b ys ∧ R (ItZ K t u a b) H1
theorem sep2 (N a b : Nat) (ha : a < N) (hb : b < N) : ZipSep2 (N + 4) (N + 2) (N + 3) N (N + 1) [N, a] [N + 1, b] := by
  have n4 : ∀ k : Nat, (N + k : Nat) ≠ a := fun k z => by omega
  have n5 : ∀ k : Nat, (N + k : Nat) ≠ b := fun k z => by omega
  constructor <;> first
    | exact fun z => absurd (show (_ : Nat) = _ from z) (by omega)
    | exact List.mem_cons_self ..
    | (intro z
       rcases List.mem_cons.mp z with z | z
       · exact absurd (show (_ : Nat) = _ from z) (by omega)
       · exact absurd (show (_ : Nat) = _ from List.mem_singleton.mp z) (by omega))
theorem refs2 {a b : Addr} {us : List Value} (r : Vals [V.ref a, V.ref b] us) : us = [.ref a, .ref b] := by
  obtain ⟨u, w, rfl, ru, rw'⟩ := vals2 r
  cases ru; cases rw'; rfl
theorem pi_zipX {X : Cx} {e e2 : Expr} {ta : TA} {p pos tpos : Pos} {elts : List Expr} {kk : Nat} (hg : Gl X "zip") (hm : X.mg "zip" = none) (ha : PA X [e, e2] ta)
    (hs : starEach [e, e2] X.env = (false, eval e X.env) :: starEach [e2] X.env := by rfl) (hpl : (backTo pos (starEach [e2] X.env)).any (·.1) = false := by rfl) :
    PI X (.Tuple elts kk tpos) (.Call (.Name "zip" p) [e, e2] [] pos) (iZ X.K ta) := by
  refine ⟨fun pins s σ H R I h => PyProof.Rows.Call_ (ld_blt I hg hm PyProof.Rows.boot_zip (PyProof.Rows.callWith_type1 (thn (ha.run pos pins s σ H _ I h) ?_) hs hpl))⟩
  rintro us s1 ⟨vs, H1, I1, r1, t, u, a, b, xs, ys, rfl, hqx, hqy, q⟩
  rw [refs2 r1]
  obtain ⟨its, rv, p1, _⟩ := sqy_at I1 hqx
  obtain ⟨its2, rv2, p2, _⟩ := sqy_at I1 hqy
  have la := isX_lt p1
  have lb := isX_lt p2
  refine zip_begins2 (begX t a its.toArray) (begX u b its2.toArray) p1 p2 fun h' hz hTI hTO g1 g2 _ hk => wpAny_pyIter_zip hz ?_
  have I2 : Inv X pins σ H1 { s1 with heap := h' } := I1.kept (t' := s1.toks) hk
  refine ⟨s1.heap.objs.size + 4, [s1.heap.objs.size + 4, s1.heap.objs.size + 2, s1.heap.objs.size + 3, s1.heap.objs.size, s1.heap.objs.size + 1], _, _, H1, rfl, I2,
    turnZ (sep2 s1.heap.objs.size a b la lb) (Nat.ne_of_lt la) (Nat.ne_of_lt (Nat.lt_succ_of_lt lb)), ⟨hz, hTI, ⟨_, _, hTO⟩, itrX_new g1, itrX_new g2⟩, fun c hc => ?_, q⟩
  have hle : s1.heap.objs.size ≤ c := by
    have e' : c = s1.heap.objs.size + 4 ∨ c = s1.heap.objs.size + 2 ∨ c = s1.heap.objs.size + 3 ∨ c = s1.heap.objs.size ∨ c = s1.heap.objs.size + 1 := by simpa using hc
    rcases e' with z | z | z | z | z <;> rw [z] <;> first | exact Nat.le_add_right _ _ | exact Nat.le_refl _
  exact I1.fpOk hle (I1.hok.fresh hle)

/-! ### values -/
section
variable {X : Cx} {W : WX} {prot : Nat → Bool} {e a b tg : Expr} {es : List Expr} {pos : Pos}
def enumU : Nat → List PyData → List U
  | _, [] => []
  | i, x :: xs => .pr [.d (.int (i : Nat)), .d x] :: enumU (i + 1) xs
def zipU : List PyData → List PyData → List U
  | x :: xs, y :: ys => .pr [.d x, .d y] :: zipU xs ys
  | _, _ => []
theorem enumU_len : ∀ (i : Nat) (xs : List PyData), (enumU i xs).length = xs.length
  | _, [] => rfl
  | i, x :: xs => by rw [enumU, List.length_cons, List.length_cons, enumU_len]
theorem enumU_get : ∀ (k i : Nat) (xs : List PyData), (enumU k xs)[i]? = (xs[i]?).map fun x => .pr [.d (.int ((k + i : Nat) : Int)), .d x]
  | _, _, [] => by simp [enumU]
  | k, 0, x :: xs => by simp [enumU]
  | k, i + 1, x :: xs => by
    rw [enumU, List.getElem?_cons_succ, List.getElem?_cons_succ, enumU_get (k + 1) i xs]
    congr 1
    funext y
    rw [show k + 1 + i = k + (i + 1) by omega]
theorem zipU_len : ∀ (xs ys : List PyData), (zipU xs ys).length = min xs.length ys.length
  | [], ys => by simp [zipU]
  | x :: xs, [] => by simp [zipU]
  | x :: xs, y :: ys => by
    rw [zipU, List.length_cons, zipU_len xs ys, List.length_cons, List.length_cons]; omega
theorem zipU_get : ∀ (i : Nat) (xs ys : List PyData) (x y : PyData), xs[i]? = some x → ys[i]? = some y → (zipU xs ys)[i]? = some (.pr [.d x, .d y])
  | _, [], _, _, _, h, _ => by simp at h
  | _, _ :: _, [], _, _, _, h => by simp at h
  | 0, a :: xs, b :: ys, x, y, h1, h2 => by
    simp at h1 h2; subst h1; subst h2; rfl
  | i + 1, a :: xs, b :: ys, x, y, h1, h2 => by
    rw [zipU, List.getElem?_cons_succ]
    exact zipU_get i xs ys x y (by simpa using h1) (by simpa using h2)
def seqU (t : Bool) (xs : List PyData) : U := .d (if t then .tuple xs else .list xs)
theorem seqU_items {K : PySem.W.Frag} {H : Hp} {v : V} {t : Bool} {xs : List PyData} {ps : PL} (s : SP K H ((v, seqU t xs) :: ps)) : ∃ a vs, v = .ref a ∧ SqY K t H a vs ∧ vs.length = xs.length ∧ SP K H (vs.zip (xs.map .d) ++ (v, seqU t xs) :: ps) := by
  cases t
  · exact SP.itemsL s
  · exact SP.itemsT s
theorem sp_seqI {K : PySem.W.Frag} {H : Hp} {a : Addr} {t : Bool} {xs : List PyData} {vs ws : List V} {ps : PL} (s : SP K H ((V.ref a, seqU t xs) :: ps)) (h : SqY K t H a vs) (hinj : ∀ ys, SqY K t H a ys → ys = vs) {i : Nat} {x : PyData} (hx : xs[i]? = some x) :
    ∃ v, vs[i]? = some v ∧ SP K H ((v, U.d x) :: (V.ref a, seqU t xs) :: ps) := by
  obtain ⟨a', vs', e, sq, hl, q⟩ := seqU_items s
  cases e
  have e2 := hinj _ sq
  subst e2
  obtain ⟨v, hv, as, bs, ez⟩ := zip_at (us := xs.map U.d) (u := U.d x) (by simpa using hl) (by rw [List.getElem?_map, hx]; rfl)
  refine ⟨v, hv, ?_⟩
  rw [ez] at q
  have q2 : SP K H ((as ++ bs) ++ ((v, U.d x) :: (V.ref a, seqU t xs) :: ps)) := q.perm ((front.append_right _).trans front.symm)
  exact q2.dropL
end
end Vm
end
section
set_option Elab.async false
set_option linter.all false
set_option maxRecDepth 100000
namespace Vm
open PySem L2 PySem.W

section
variable {X : Cx} {W : WX} {prot : Nat → Bool} {e a b tg : Expr} {es : List Expr} {pos : Pos}
theorem sp_item {K : PySem.W.Frag} {H : Hp} {a : Addr} {t : Bool} {xs : List PyData} {ps : PL} {v : V} {i : Nat} {x : PyData} (s : SP K H ((V.ref a, seqU t xs) :: ps)) (h : ∀ ys, SqY K t H a ys → ys[i]? = some v) (hx : xs[i]? = some x) :
    SP K H ((v, U.d x) :: (V.ref a, seqU t xs) :: ps) := by
  obtain ⟨a', vs, e, sq, hl, q⟩ := seqU_items s
  cases e
  have hv := h vs sq
  obtain ⟨as, bs, ez⟩ := zip_get hv (show (xs.map U.d)[i]? = some (U.d x) by rw [List.getElem?_map, hx]; rfl)
  rw [ez] at q
  have q2 : SP K H ((as ++ bs) ++ ((v, U.d x) :: (V.ref a, seqU t xs) :: ps)) := q.perm ((front.append_right _).trans front.symm)
  exact q2.dropL
theorem src_enum {K : PySem.W.Frag} {t : Bool} {a : Addr} {xs : List PyData} : Src K (ItE K t a) (enumU 0 xs) [(V.ref a, seqU t xs)] := by
  refine ⟨fun H => ∃ vs, SqY K t H a vs ∧ vs.length = xs.length, fun i H x H' => (ItE K t a).yld i H x H', ⟨fun i H hi ⟨vs, q, hl⟩ => ?_, fun H ⟨vs, q, hl⟩ => ⟨vs, q, by rw [enumU_len, hl]⟩, fun i H x H' _ _ y => y⟩, fun H ps s => ?_, fun i H x H' ps hi y s => ?_⟩
  · rw [enumU_len] at hi
    exact ⟨vs, vs[i]'(by omega), q, by simp [show i < vs.length by omega]⟩
  · obtain ⟨a', vs, e, sq, hl, _⟩ := seqU_items (t := t) (xs := xs) s
    cases e
    exact ⟨vs, sq, hl⟩
  · obtain ⟨T, w, rfl, hn, rfl, hx⟩ := y
    rw [enumU_len] at hi
    have hx' : xs[i]? = some xs[i] := List.getElem?_eq_getElem hi
    have s1 := sp_item (ps := ps) s hx hx'
    have s2 : SP K H (([V.int (i : Nat), w] : List V).zip [U.d (.int (i : Nat)), U.d xs[i]] ++ ((V.ref a, seqU t xs) :: ps)) := s1.int i
    refine ⟨.pr [.d (.int (i : Nat)), .d xs[i]], by rw [enumU_get, hx']; simp, ?_⟩
    exact s2.newPr rfl hn
theorem src_zip {K : PySem.W.Frag} {t u : Bool} {a b : Addr} {xs ys : List PyData} : Src K (ItZ K t u a b) (zipU xs ys) [(V.ref a, seqU t xs), (V.ref b, seqU u ys)] := by
  refine ⟨fun H => ∃ vs ws, SqY K t H a vs ∧ vs.length = xs.length ∧ SqY K u H b ws ∧ ws.length = ys.length, fun i H x H' => (ItZ K t u a b).yld i H x H', ⟨fun i H hi ⟨vs, ws, q, hl, q2, hl2⟩ => ?_, fun H ⟨vs, ws, q, hl, q2, hl2⟩ => ⟨vs, ws, q, q2, by rw [zipU_len, hl, hl2]⟩, fun i H x H' _ _ y => y⟩, fun H ps s => ?_, fun i H x H' ps hi y s => ?_⟩
  · rw [zipU_len] at hi
    exact ⟨vs, ws, vs[i]'(by omega), ws[i]'(by omega), q, q2, by simp [show i < vs.length by omega], by simp [show i < ws.length by omega]⟩
  · obtain ⟨a', vs, e, sq, hl, _⟩ := seqU_items (t := t) (xs := xs) s
    cases e
    obtain ⟨b', ws, e, sq2, hl2, _⟩ := seqU_items (t := u) (xs := ys) (SP.tail (ps := (V.ref b, seqU u ys) :: ps) s)
    cases e
    exact ⟨vs, ws, sq, hl, sq2, hl2⟩
  · obtain ⟨T, v, w, rfl, hn, rfl, hx, hy⟩ := y
    rw [zipU_len] at hi
    have hx' : xs[i]? = some (xs[i]'(by omega)) := List.getElem?_eq_getElem (by omega)
    have hy' : ys[i]? = some (ys[i]'(by omega)) := List.getElem?_eq_getElem (by omega)
    have s0 : SP K H ((V.ref b, seqU u ys) :: (V.ref a, seqU t xs) :: ps) := SP.perm (ps := (V.ref a, seqU t xs) :: (V.ref b, seqU u ys) :: ps) s (.swap _ _ _)
    have s1 := sp_item s0 hy hy'
    have s2 : SP K H ((V.ref a, seqU t xs) :: (V.ref b, seqU u ys) :: (w, U.d (ys[i]'(by omega))) :: ps) := s1.perm (by
      refine List.Perm.trans (List.Perm.cons _ (.swap _ _ _)) ?_
      refine List.Perm.trans (.swap _ _ _) ?_
      exact List.Perm.cons _ (.swap _ _ _))
    have s3 := sp_item s2 hx hx'
    have s4 : SP K H (([v, w] : List V).zip [U.d (xs[i]'(by omega)), U.d (ys[i]'(by omega))] ++ ((V.ref a, seqU t xs) :: (V.ref b, seqU u ys) :: ps)) := s3.perm (by
      refine List.Perm.cons _ ?_
      refine List.Perm.trans (List.Perm.cons _ (.swap _ _ _)) ?_
      exact .swap _ _ _)
    exact ⟨_, zipU_get i xs ys _ _ hx' hy', s4.newPr rfl hn⟩
/-- data that is a list or a tuple -/
def seqOf : PyData → Option (Bool × List PyData)
  | .list xs => some (false, xs)
  | .tuple xs => some (true, xs)
  | _ => none
theorem seqOf_ok {x : PyData} {t : Bool} {xs : List PyData} (h : seqOf x = some (t, xs)) : U.d x = seqU t xs := by
  cases x <;> simp [seqOf] at h <;> obtain ⟨rfl, rfl⟩ := h <;> rfl
def kEnum (rs : List Rv) (ς : Env) : Res (List U) := match sharesD rs ς with
  | some ([x], ς1) => match seqOf x with
    | some (_, xs) => .ok (enumU 0 xs) ς1
    | none => .stuck
  | _ => .stuck
def kZip (rs : List Rv) (ς : Env) : Res (List U) := match sharesD rs ς with
  | some ([x, y], ς1) => match seqOf x, seqOf y with
    | some (_, xs), some (_, ys) => .ok (zipU xs ys) ς1
    | _, _ => .stuck
  | _ => .stuck
def mEnum (ms : Env → Res (List Rv)) : Env → Res (List U) := mA ms kEnum
def mZip (ms : Env → Res (List Rv)) : Env → Res (List U) := mA ms kZip
theorem di_enum {p tpos : Pos} {elts : List Expr} {kk : Nat} {ms : Env → Res (List Rv)} (hg : Gl X "enumerate") (hm : X.mg "enumerate" = none) (ha : DA X W [e] ms) (hs : starEach [e] X.env = [(false, eval e X.env)] := by rfl) :
    DI X W (.Tuple elts kk tpos) (.Call (.Name "enumerate" p) [e] [] pos) (mEnum ms) :=
  pi_weak (pi_enumX hg hm ha hs) fun σ H R h => li_a h fun vs H rs ς tp s a o => by
    unfold kEnum at o
    split at o
    · rename_i x ς1 hs
      obtain ⟨s1, hl⟩ := sharesD_ok s a hs
      match vs, hl with
      | [v], _ =>
        split at o
        · rename_i t xs hx
          have e := seqOf_ok hx
          have s2 : SR X.K H σ ς1 ((v, seqU t xs) :: tp) := by rw [← e]; exact s1
          obtain ⟨b, ws, rfl, sq, hlw, _⟩ := seqU_items s2.ahead
          exact ⟨t, b, ws, rfl, sq, o _ H [(V.ref b, seqU t xs)] s2 src_enum⟩
        · exact o.elim
    · exact o.elim
theorem di_zip {p tpos : Pos} {elts : List Expr} {kk : Nat} {ms : Env → Res (List Rv)} (hg : Gl X "zip") (hm : X.mg "zip" = none) (ha : DA X W [a, b] ms)
    (hs : starEach [a, b] X.env = (false, eval a X.env) :: starEach [b] X.env := by rfl) (hpl : (backTo pos (starEach [b] X.env)).any (·.1) = false := by rfl) :
    DI X W (.Tuple elts kk tpos) (.Call (.Name "zip" p) [a, b] [] pos) (mZip ms) :=
  pi_weak (pi_zipX hg hm ha hs hpl) fun σ H R h => li_a h fun vs H rs ς tp s a o => by
    unfold kZip at o
    split at o
    · rename_i x y ς1 hs
      obtain ⟨s1, hl⟩ := sharesD_ok s a hs
      match vs, hl with
      | [v, w], _ =>
        split at o
        · rename_i t xs u ys hx hy
          have e := seqOf_ok hx
          have e2 := seqOf_ok hy
          have s2 : SR X.K H σ ς1 ((v, seqU t xs) :: (w, seqU u ys) :: tp) := by rw [← e, ← e2]; exact s1
          obtain ⟨b, ws, rfl, sq, hlw, _⟩ := seqU_items s2.ahead
          obtain ⟨c, zs, rfl, sq2, hlz, _⟩ := seqU_items s2.tail.ahead
          exact ⟨t, u, b, c, ws, zs, rfl, sq, sq2, o _ H [(V.ref b, seqU t xs), (V.ref c, seqU u ys)] s2 src_zip⟩
        · exact o.elim
    · exact o.elim
/-! ### a, b = x, y -/
theorem ls_a {K : PySem.W.Frag} {ms : Env → Res (List Rv)} {k : List Rv → Env → Res Fl} {σ : L2.St} {H : Hp} {D : Ends} {R : List V → Hp → Prop}
    (h : LS K W prot (mA ms k) D σ H) (hk : ∀ vs H rs ς tp, SR K H σ ς (tmps rs vs ++ tp) → ats σ rs vs → OutS K W prot σ tp D (k rs ς) → R vs H) : LA K W ms σ H R := by
  obtain ⟨ς, tp, s, o⟩ := h
  refine ⟨ς, tp, s, ?_⟩
  unfold mA at o
  cases h1 : ms ς with
  | stuck => rw [h1] at o; exact o
  | exc x ς1 => rw [h1] at o; exact fun cls d H ps sx ex => o σ cls d H ps sx ex (Pr.refl σ)
  | ok rs ς1 => rw [h1] at o; exact fun vs H1 s1 a1 => hk vs H1 rs ς1 tp s1 a1 o
def setAll : List Nat → List U → Env → Option Env
  | i :: is, u :: us, ς => if i < ς.length then setAll is us (ς.set i (some u)) else none
  | [], [], ς => some ς
  | _, _, _ => none
def kPar (is : List Nat) (rs : List Rv) (ς : Env) : Res Fl := match shares rs ς with
  | some (us, ς1) => match setAll is us ς1 with
    | some ς2 => .ok .next ς2
    | none => .stuck
  | none => .stuck
def mPar (is : List Nat) (ms : Env → Res (List Rv)) : Env → Res Fl := mA ms (kPar is)
def setV : List Nat → List V → L2.St → L2.St
  | i :: is, v :: vs, σ => setV is vs (σ.set i (some v))
  | _, _, σ => σ
theorem setAll_ok {K : PySem.W.Frag} : ∀ {is : List Nat} {us : List U} {vs : List V} {ς ς' : Env} {σ : L2.St} {H : Hp} {tp : PL}, SR K H σ ς (vs.zip us ++ tp) → vs.length = us.length → setAll is us ς = some ς' → (∀ i ∈ is, prot i = false) →
    SR K H (setV is vs σ) ς' tp ∧ Pr prot σ (setV is vs σ) ∧ is.length = us.length
  | [], [], [], ς, ς', σ, H, tp, s, _, h, _ => by
    have e : ς = ς' := by simpa [setAll] using h
    subst e; exact ⟨s, Pr.refl σ, rfl⟩
  | i :: is, u :: us, v :: vs, ς, ς', σ, H, tp, s, hl, h, hp => by
    unfold setAll at h
    split at h
    · rename_i hi
      have s1 : SR K H (σ.set i (some v)) (ς.set i (some u)) (vs.zip us ++ tp) := SR.store (tp := vs.zip us ++ tp) s (by rw [← s.len]; exact hi)
      obtain ⟨s2, p2, l2⟩ := setAll_ok s1 (by simpa using hl) h fun j hj => hp j (List.mem_cons_of_mem _ hj)
      exact ⟨s2, (pr_set (hp i (List.mem_cons_self ..))).trans p2, by simp [l2]⟩
    · cases h
  | [], _ :: _, _, _, _, _, _, _, _, _, h, _ => by simp [setAll] at h
  | _ :: _, [], _, _, _, _, _, _, _, _, h, _ => by simp [setAll] at h
  | [], [], _ :: _, _, _, _, _, _, _, hl, _, _ => by simp at hl
  | _ :: _, _ :: _, [], _, _, _, _, _, _, hl, _, _ => by simp at hl
theorem par_ok {is : List Nat} {vs : List V} {H : Hp} {rs : List Rv} {σ : L2.St} {ς : Env} {tp : PL} {D : Ends} (hp : ∀ i ∈ is, prot i = false) (s : SR X.K H σ ς (tmps rs vs ++ tp)) (a : ats σ rs vs) (o : OutS X.K W prot σ tp D (kPar is rs ς)) :
    D.nx (setV is vs σ) H ∧ is.length = vs.length := by
  unfold kPar at o
  split at o
  · rename_i us ς1 hs
    obtain ⟨s1, hl⟩ := shares_ok s a hs
    split at o
    · rename_i ς2 h2
      obtain ⟨s2, p2, l2⟩ := setAll_ok s1 hl.symm h2 hp
      exact ⟨o _ H s2 p2, l2.trans hl⟩
    · exact o.elim
  · exact o.elim
theorem ds_par2 (i j : Nat) {x y : Str} {px py pt : Pos} {kt k2 : Nat} {pt2 : Pos} {ms : Env → Res (List Rv)} (hc : X.calm = true) (hN : X.N.Nodup) (ha : DA X W [a, b] ms) (hp : ∀ k ∈ [i, j], prot k = false := by decide) (hij : i ≠ j := by decide)
    (hi : X.N[i]? = some x := by rfl) (hj : X.N[j]? = some y := by rfl) (hx : X.env.scope.names.lookup x = some .local := by rfl) (hy : X.env.scope.names.lookup y = some .local := by rfl)
    (hw : swappedStores [.Tuple [.Name x px, .Name y py] kt pt] (.Tuple [a, b] k2 pt2) X.env = pure (some [x, y]) := by rfl)
    (hs : swapsWithSole [.Tuple [.Name x px, .Name y py] kt pt] (.Tuple [a, b] k2 pt2) pos.line X.env = pure false := by rfl) :
    DS X W prot (.Assign [.Tuple [.Name x px, .Name y py] kt pt] (.Tuple [a, b] k2 pt2) pos) (mPar [i, j] ms) :=
  ps_weak (ps_par hc hN hi hj hij hx hy ha hw hs) fun D σ H h => ls_a h fun vs H rs ς tp s a o => by
    obtain ⟨q, hl⟩ := par_ok hp s a o
    match vs, hl with
    | [v, w], _ => exact ⟨v, w, rfl, q⟩
theorem ds_par3 (i j l : Nat) {c : Expr} {x y z : Str} {px py pz pt : Pos} {kt k2 : Nat} {pt2 : Pos} {ms : Env → Res (List Rv)} (hc : X.calm = true) (hN : X.N.Nodup) (ha : DA X W [a, b, c] ms) (hp : ∀ k ∈ [i, j, l], prot k = false := by decide) (hij : i ≠ j := by decide) (hil : i ≠ l := by decide) (hjl : j ≠ l := by decide)
    (hi : X.N[i]? = some x := by rfl) (hj : X.N[j]? = some y := by rfl) (hl : X.N[l]? = some z := by rfl) (hx : X.env.scope.names.lookup x = some .local := by rfl) (hy : X.env.scope.names.lookup y = some .local := by rfl) (hz : X.env.scope.names.lookup z = some .local := by rfl)
    (hw : swappedStores [.Tuple [.Name x px, .Name y py, .Name z pz] kt pt] (.Tuple [a, b, c] k2 pt2) X.env = pure (some [x, y, z]) := by rfl)
    (hs : swapsWithSole [.Tuple [.Name x px, .Name y py, .Name z pz] kt pt] (.Tuple [a, b, c] k2 pt2) pos.line X.env = pure false := by rfl) :
    DS X W prot (.Assign [.Tuple [.Name x px, .Name y py, .Name z pz] kt pt] (.Tuple [a, b, c] k2 pt2) pos) (mPar [i, j, l] ms) :=
  ps_weak (ps_par3 hc hN hi hj hl hij hil hjl hx hy hz ha hw hs) fun D σ H h => ls_a h fun vs H rs ς tp s a o => by
    obtain ⟨q, hl⟩ := par_ok hp s a o
    match vs, hl with
    | [v, w, u], _ => exact ⟨v, w, u, rfl, q⟩
/-- (t1, ..) = (e1, ..), by way of the tuple -/
def mAsgT (n : Nat) (ms : Env → Res (List Rv)) (gs : List U → Env → Option Env) : Env → Res Fl := mA ms fun rs ς => match shares rs ς with
  | some (us, ς1) => if us.length = n ∧ n ≤ 1000 then match gs us ς1 with
    | some ς2 => .ok .next ς2
    | none => .stuck else .stuck
  | none => .stuck
theorem ds_asgT {tgs : List Expr} {kt k2 n : Nat} {pt pt2 : Pos} {ms : Env → Res (List Rv)} {gs : List U → Env → Option Env} (hc : X.calm = true) (ha : DA X W es ms) (hg : DGs X prot tgs gs) (hn : (assignEach tgs X.env).length = n := by rfl) (hst : (assignEach tgs X.env).findIdx? (·.1) = none := by rfl)
    (hs : swapsWithSole [.Tuple tgs kt pt] (.Tuple es k2 pt2) pos.line X.env = pure false := by rfl) (hw : swappedStores [.Tuple tgs kt pt] (.Tuple es k2 pt2) X.env = pure none := by rfl)
    (h1 : (assignEach [.Tuple tgs kt pt] X.env).map (·.2) = [assign (.Tuple tgs kt pt) X.env] := by rfl) : DS X W prot (.Assign [.Tuple tgs kt pt] (.Tuple es k2 pt2) pos) (mAsgT n ms gs) :=
  ps_weak (ps_asg (pe_tup ha) (pg_tup hc hg hn hst) hs hw h1) fun D σ H h => ls_a h fun vs H rs ς tp s a o => by
    split at o
    · rename_i us ς1 hs
      obtain ⟨s1, hl⟩ := shares_ok s a hs
      split at o
      · rename_i hz
        refine ⟨le1000 (by rw [← hl, hz.1]; exact hz.2), fun p hp => ?_⟩
        refine ⟨p, vs, rfl, .inl (.inl upd_same), by rw [← hl]; exact hz.1, us, ς1, tp, hl.symm, ⟨s1.sp.laid hp, s1.cov, s1.len⟩, ?_⟩
        split at o
        · rename_i ς2 h2
          rw [h2]; exact o
        · exact o.elim
      · exact o.elim
    · exact o.elim
end
end Vm
end
section
set_option Elab.async false
set_option linter.all false
set_option maxRecDepth 100000
namespace Vm
open PySem L2 PySem.W

/-! ### x.index(y), x.count(y) of a list or a tuple of data -/
def rFind (cnt t : Bool) (K : PySem.W.Frag) : V → List V → Hp → VK → Prop := fun x vs H Q => ∃ a xs y d, x = .ref a ∧ vs = [y] ∧ Dp K H (.ref a) (if t then .tuple xs else .list xs) ∧ Dp K H y d ∧ lev 8 d = true ∧
  if cnt then Q (.int ((xs.countP fun z => PyData.eqv z d : Nat) : Int)) H else ∃ j, SeqAt.dataPlace xs d = some j ∧ Q (.int (j : Nat)) H
section
variable {X : Cx} {W : WX} {o e a b : Expr} {es : List Expr} {pos : Pos}
theorem mt_findL (cnt : Bool) (hu : X.A.units + 64 < cLine) : MtR X (if cnt then "list.count" else "list.index") (rFind cnt false X.K) := by
  rintro pins s σ H x vs v us Q I rx rv ⟨p, xs, y, d, rfl, rfl, hl, hd, hlev, q⟩
  cases rx
  obtain ⟨u, rfl, ru⟩ := vals1 rv
  obtain ⟨b, ws, e, sq, hw⟩ := dp_lst hl
  cases e
  obtain ⟨its, r, pl, hz⟩ := I.list sq
  obtain ⟨as, rs⟩ := Dp.readsAll I xs ws its hw r
  obtain ⟨bs, rd⟩ := Dp.reads I d y u hd ru
  have hxs : PyData.plainAll xs = true := by have := dp_plain (.list xs) _ hl; rwa [PyData.plain] at this
  have hpd := dp_plain d y hd
  have hdep := dp_depth hd hlev
  have hroom : X.A.units + 1 + min (PyData.depthAll xs) d.depth < cLine := by omega
  have rs' : ReadsAll s.heap its.toArray.toList xs as := by simpa using rs
  cases cnt with
  | true => exact SeqAt.count_list_data pl.isList rs' rd hxs hpd hroom ⟨.int _, H, I.tok _, ⟨_, rfl⟩, q⟩
  | false =>
    obtain ⟨j, hj, q⟩ := q
    obtain ⟨h1, h2, h3⟩ := SeqAt.hit_at rs' hxs hj
    obtain ⟨⟨cls, dd, data, sl⟩, n, ho, hc, hdn, hdt⟩ := pl
    simp only at hc hdt
    subst hc hdt
    have hsz : its.toArray.size ≤ sizeLine := by rw [List.size_toArray, ← r.length]; exact hz
    have h63 : (j : Int) < 2 ^ 63 - 1 := by
      have e63 : (2 : Int) ^ 63 = 9223372036854775808 := by decide +kernel
      rw [sizeLine_eq] at hsz
      rw [e63]; omega
    exact call_meets F.slot_list_index ⟨_, ho, rfl⟩ F.entry_list_index (F.args_list_index_2 _ _)
      (SeqAt.list_indexAt p its.toArray n dd sl u (fun w => PyData.eqv (SeqAt.readOf s.heap w) d) j h1 h63 h2 h3) ⟨ho, SeqAt.items_plain rs' rd hxs hpd hroom, .int (j : Nat), H, I.tok _, ⟨_, rfl⟩, q⟩
theorem mt_findT (cnt : Bool) (hu : X.A.units + 64 < cLine) : MtR X (if cnt then "tuple.count" else "tuple.index") (rFind cnt true X.K) := by
  rintro pins s σ H x vs v us Q I rx rv ⟨p, xs, y, d, rfl, rfl, hl, hd, hlev, q⟩
  cases rx
  obtain ⟨u, rfl, ru⟩ := vals1 rv
  obtain ⟨b, ws, e, sq, hw⟩ := dp_tup hl
  cases e
  obtain ⟨its, r, pl, hz⟩ := I.tuple sq
  obtain ⟨as, rs⟩ := Dp.readsAll I xs ws its hw r
  obtain ⟨bs, rd⟩ := Dp.reads I d y u hd ru
  have hxs : PyData.plainAll xs = true := by have := dp_plain (.tuple xs) _ hl; rwa [PyData.plain] at this
  have hpd := dp_plain d y hd
  have hdep := dp_depth hd hlev
  have hroom : X.A.units + 1 + min (PyData.depthAll xs) d.depth < cLine := by omega
  have rs' : ReadsAll s.heap its.toArray.toList xs as := by simpa using rs
  cases cnt with
  | true => exact SeqAt.count_tuple_data (show s.heap.IsTuple p its.toArray from pl) rs' rd hxs hpd hroom ⟨.int _, H, I.tok _, ⟨_, rfl⟩, q⟩
  | false =>
    obtain ⟨j, hj, q⟩ := q
    obtain ⟨h1, h2, h3⟩ := SeqAt.hit_at rs' hxs hj
    obtain ⟨⟨cls, dd, data, sl⟩, ho, hc, n, hdt⟩ := pl
    simp only at hc hdt
    subst hc hdt
    refine call_meets F.slot_tuple_index ⟨_, ho, rfl⟩ F.entry_tuple_index (F.args_tuple_index_2 _ _)
      (SeqAt.tuple_index2_found p its.toArray n dd sl u (fun k => if h : k < its.toArray.size then PyData.eqv (SeqAt.readOf s.heap its.toArray[k]) d else false) j h1 (Nat.zero_le _) h1 ?_ ?_) ⟨ho, fun k hk => ?_, .int (j : Nat), H, I.tok _, ⟨_, rfl⟩, q⟩
    · rw [dif_pos h1]; exact h2
    · intro m hm _ hmj
      rw [dif_pos hm]; exact h3 m hm hmj
    · simp only [dif_pos hk]
      exact SeqAt.items_plain rs' rd hxs hpd hroom _ (Array.getElem_mem hk)
def tyR (r : Rv) (ς : Env) : Option Bool := match r.peek ς with
  | some (.own _) => some false
  | some (.d (.list _)) => some false
  | some (.d (.tuple _)) => some true
  | _ => none
def kFind (cnt t : Bool) (r : Rv) (rs : List Rv) (ς : Env) : Res Rv := match r.peek ς, peeks ς rs with
  | some u, some [d] => match u.toD with
    | some x => match seqOf x with
      | some (t', xs) => if t' = t ∧ lev 8 d = true then
          if cnt then .ok (.tm (.d (.int ((xs.countP fun z => PyData.eqv z d : Nat) : Int)))) ς else match SeqAt.dataPlace xs d with
            | some j => .ok (.tm (.d (.int (j : Nat)))) ς
            | none => .stuck
        else .stuck
      | none => .stuck
    | none => .stuck
  | _, _ => .stuck
def mFind (cnt : Bool) (mo : Env → Res Rv) (ms : Env → Res (List Rv)) : Env → Res Rv := fun ς => (mo ς).bind fun r ς1 => match tyR r ς1 with
  | some t => (ms ς1).bind fun rs ς2 => kFind cnt t r rs ς2
  | none => .stuck
theorem find_k {cnt t : Bool} {r : Rv} {rs : List Rv} {x : V} {vs : List V} {H : Hp} {σ : L2.St} {ς : Env} {tp : PL} {Q : VK} (s : SR X.K H σ ς (tmps rs vs ++ (r.tmp x ++ tp))) (a1 : r.at σ x) (a2 : ats σ rs vs)
    (o : OutE X.K W σ tp Q (kFind cnt t r rs ς)) : rFind cnt t X.K x vs H Q := by
  unfold kFind at o
  split at o
  · rename_i u d hu hp
    split at o
    · rename_i y hy
      split at o
      · rename_i t' xs hx
        split at o
        · rename_i hc
          obtain ⟨rfl, hlev⟩ := hc
          obtain ⟨v, rfl, hd⟩ := dpAll1 (peeks_ok s a2 hp)
          have s1 : SR X.K H σ ς (r.tmp x ++ tp) := s.dropL
          obtain ⟨ps, q⟩ := look_ok s1 a1 hu
          have dx := q.peek hy
          have s0 : SR X.K H σ ς tp := s1.dropL
          have ey : y = if t' then .tuple xs else .list xs := by
            cases y <;> simp [seqOf] at hx <;> obtain ⟨rfl, rfl⟩ := hx <;> rfl
          rw [ey] at dx
          have ex : ∃ p, x = .ref p := by
            cases t'
            · obtain ⟨p, _, e, _⟩ := dp_lst dx; exact ⟨p, e⟩
            · obtain ⟨p, _, e, _⟩ := dp_tup dx; exact ⟨p, e⟩
          obtain ⟨p, rfl⟩ := ex
          refine ⟨p, xs, v, d, rfl, rfl, dx, hd, hlev, ?_⟩
          cases cnt with
          | true => exact o _ H (s0.putD rfl) trivial
          | false =>
            simp only [Bool.false_eq_true, if_false] at o ⊢
            split at o
            · rename_i j hj
              exact ⟨j, hj, o _ H (s0.putD rfl) trivial⟩
            · exact o.elim
        · exact o.elim
      · exact o.elim
    · exact o.elim
  · exact o.elim
theorem pe_two {t1 t2 : TE} (h : PE X e t1) (h' : PE X e t2) : PE X e (fun σ H Q => t1 σ H Q ∨ t2 σ H Q) := ⟨fun pins s σ H Q I q => q.elim (h.run pins s σ H Q I) (h'.run pins s σ H Q I)⟩
theorem find_split {cnt : Bool} {mo : Env → Res Rv} {ms : Env → Res (List Rv)} {σ : L2.St} {H : Hp} {Q : VK} (h : LE X.K W (mFind cnt mo ms) σ H Q) :
    tMeth1 (isLst X.K) (rFind cnt false X.K) (LE X.K W mo) (LA X.K W ms) σ H Q ∨ tMeth1 (isTup X.K) (rFind cnt true X.K) (LE X.K W mo) (LA X.K W ms) σ H Q := by
  obtain ⟨ς, tp, s, o⟩ := h
  unfold mFind at o
  cases h1 : mo ς with
  | stuck => rw [h1] at o; exact o.elim
  | exc x ς1 => exact .inl ⟨ς, tp, s, by rw [h1] at o ⊢; exact o⟩
  | ok r ς1 =>
    rw [h1, Res.bind_ok] at o
    cases ht : tyR r ς1 with
    | none => simp only [ht] at o; exact o.elim
    | some t =>
      simp only [ht] at o
      have args : ∀ x H1, SR X.K H1 σ ς1 (r.tmp x ++ tp) → r.at σ x → LA X.K W ms σ H1 fun vs H2 => rFind cnt t X.K x vs H2 Q := by
        intro x H1 s1 a1
        refine ⟨ς1, _, s1, ?_⟩
        cases h2 : ms ς1 with
        | stuck => rw [h2] at o; exact o
        | exc y ς2 =>
          rw [h2] at o
          exact fun cls d H ps sx ex => o cls d H ps ((sx.perm swapL).dropL) ex
        | ok rs ς2 =>
          rw [h2, Res.bind_ok] at o
          exact fun vs H2 s2 a2 => find_k s2 a1 a2 o
      have ty : ∀ x H1, SR X.K H1 σ ς1 (r.tmp x ++ tp) → r.at σ x → (t = false → isLst X.K x H1) ∧ (t = true → isTup X.K x H1) := by
        intro x H1 s1 a1
        unfold tyR at ht
        split at ht
        · rename_i us hu
          obtain ⟨ps, q⟩ := look_ok s1 a1 hu
          obtain ⟨p, vs, rfl, hp, _⟩ := q.openL
          exact ⟨fun _ => ⟨p, vs, rfl, .inl (.inl hp)⟩, fun e => by rw [e] at ht; cases ht⟩
        · rename_i us hu
          obtain ⟨ps, q⟩ := look_ok s1 a1 hu
          obtain ⟨p, vs, rfl, hp, _⟩ := q.itemsL
          exact ⟨fun _ => ⟨p, vs, rfl, hp⟩, fun e => by rw [e] at ht; cases ht⟩
        · rename_i us hu
          obtain ⟨ps, q⟩ := look_ok s1 a1 hu
          obtain ⟨p, vs, rfl, hp, _⟩ := q.itemsTN
          exact ⟨fun e => (by rw [e] at ht; cases ht), fun _ => ⟨p, vs, rfl, hp⟩⟩
        · cases ht
      cases t with
      | false => exact .inl ⟨ς, tp, s, by rw [h1]; exact fun x H1 s1 a1 => ⟨(ty x H1 s1 a1).1 rfl, args x H1 s1 a1⟩⟩
      | true => exact .inr ⟨ς, tp, s, by rw [h1]; exact fun x H1 s1 a1 => ⟨(ty x H1 s1 a1).2 rfl, args x H1 s1 a1⟩⟩
theorem de_index {mo : Env → Res Rv} {ms : Env → Res (List Rv)} {apos cpos : Pos} (hu : X.A.units + 64 < cLine) (ho : DE X W o mo) (ha : DA X W (e :: es) ms)
    (hbase : attributeBase o "index" X.env (eval o X.env) = eval o X.env := by rfl)
    (hfew : ((backTo cpos (starEach (e :: es) X.env)).all (fun x => !x.1) && (backToKw cpos (keywordEach [] X.env)).all (fun x => x.1.isSome)
      && decide ((e :: es).length + ([] : List Keyword).length + (if ([] : List Keyword).isEmpty then 0 else 1) < 30)) = true := by rfl)
    (hline : (apos.endLine == cpos.line) = true := by rfl) (hs : starEach (e :: es) X.env = (false, eval e X.env) :: starEach es X.env := by rfl)
    (hpl : (backTo cpos (starEach es X.env)).any (·.1) = false := by rfl) : DE X W (.Call (.Attribute o "index" apos) (e :: es) [] cpos) (mFind false mo ms) :=
  pe_weak (pe_two (pe_m1 tyL PySem.F.plainAttrs_list PySem.F.slot_list_index PySem.F.type_list_index (mt_findL false hu) ho ha hbase hfew hline hs hpl)
    (pe_m1 tyT PySem.F.plainAttrs_tuple PySem.F.slot_tuple_index PySem.F.type_tuple_index (mt_findT false hu) ho ha hbase hfew hline hs hpl)) fun σ H Q h => find_split h
theorem de_count {mo : Env → Res Rv} {ms : Env → Res (List Rv)} {apos cpos : Pos} (hu : X.A.units + 64 < cLine) (ho : DE X W o mo) (ha : DA X W (e :: es) ms)
    (hbase : attributeBase o "count" X.env (eval o X.env) = eval o X.env := by rfl)
    (hfew : ((backTo cpos (starEach (e :: es) X.env)).all (fun x => !x.1) && (backToKw cpos (keywordEach [] X.env)).all (fun x => x.1.isSome)
      && decide ((e :: es).length + ([] : List Keyword).length + (if ([] : List Keyword).isEmpty then 0 else 1) < 30)) = true := by rfl)
    (hline : (apos.endLine == cpos.line) = true := by rfl) (hs : starEach (e :: es) X.env = (false, eval e X.env) :: starEach es X.env := by rfl)
    (hpl : (backTo cpos (starEach es X.env)).any (·.1) = false := by rfl) : DE X W (.Call (.Attribute o "count" apos) (e :: es) [] cpos) (mFind true mo ms) :=
  pe_weak (pe_two (pe_m1 tyL PySem.F.plainAttrs_list PySem.F.slot_list_count PySem.F.type_list_count (mt_findL true hu) ho ha hbase hfew hline hs hpl)
    (pe_m1 tyT PySem.F.plainAttrs_tuple PySem.F.slot_tuple_count PySem.F.type_tuple_count (mt_findT true hu) ho ha hbase hfew hline hs hpl)) fun σ H Q h => find_split h

/-! ### a <= b <= c -/
def kCh (f' : PyData → PyData → Option PyData) (mc : Env → Res Rv) (c : Option PyData) (rb : Rv) (ς : Env) : Res Rv := match c with
  | some (.bool true) => (mc ς).bind fun rc ς1 => kSc f' rb rc ς1
  | some (.bool false) => .ok (.tm (.d (.bool false))) ς
  | _ => .stuck
def mCh (f f' : PyData → PyData → Option PyData) (ma mb mc : Env → Res Rv) : Env → Res Rv := m2 ma mb fun ra rb ς => kCh f' mc (pk2 f ra rb ς) rb ς
theorem le_ch {f f' : PyData → PyData → Option PyData} {r r' : R2} {ma mb mc : Env → Res Rv} {σ : L2.St} {H : Hp} {Q : VK} (hf : OpD X.K f r) (hf' : OpD X.K f' r') (h : LE X.K W (mCh f f' ma mb mc) σ H Q) :
    tChain r r' (LE X.K W ma) (LE X.K W mb) (LE X.K W mc) σ H Q :=
  le_2 h fun x y H ra rb ς tp s a1 a2 o => by
    unfold kCh at o
    split at o
    · rename_i hc
      obtain ⟨d, e, hd, he, hfe⟩ := pk2_ok s a1 a2 hc
      refine hf x y d e _ H _ hd he hfe fun v hv => ?_
      have ev : V.bl true = v := by simpa [scV] using hv
      subst ev
      refine ⟨true, rfl, iteT ?_⟩
      have s1 : SR X.K H σ ς (rb.tmp y ++ tp) := (s.perm swapL).dropL
      refine ⟨ς, _, s1, ?_⟩
      cases h2 : mc ς with
      | stuck => rw [h2] at o; exact o
      | exc x2 ς2 =>
        rw [h2] at o
        exact fun cls d H ps sx ex => o cls d H ps ((sx.perm swapL).dropL) ex
      | ok rc ς2 =>
        rw [h2, Res.bind_ok] at o
        exact fun z H2 s2 a3 => op_sc hf' s2 a2 a3 o
    · rename_i hc
      obtain ⟨d, e, hd, he, hfe⟩ := pk2_ok s a1 a2 hc
      refine hf x y d e _ H _ hd he hfe fun v hv => ?_
      have ev : V.bl false = v := by simpa [scV] using hv
      subst ev
      exact ⟨false, rfl, iteF (o _ H ((s.dropL).dropL.putD rfl) trivial)⟩
    · exact o.elim
theorem de_ch {op op' : CmpOp} {r r' : R2} {c : Expr} {f f' : PyData → PyData → Option PyData} {ma mb mc : Env → Res Rv} (ho : OpR X (compareOp op) r) (hf : OpD X.K f r) (ho' : OpR X (compareOp op') r') (hf' : OpD X.K f' r') (ha : DE X W a ma) (hb : DE X W b mb) (hc : DE X W c mc)
    (hm : lastMarks [op, op'] [b, c] = false := by with_unfolding_all rfl) : DE X W (.Compare a [op, op'] [b, c] pos) (mCh f f' ma mb mc) :=
  pe_weak (pe_chain ho ho' ha hb hc hm) fun σ H Q h => le_ch hf hf' h
def toT (m : Env → Res Rv) : Env → Res Bool := fun ς => (m ς).bind kB
theorem lt_toT {m : Env → Res Rv} {σ : L2.St} {H : Hp} {Q : Bool → Hp → Prop} (h : LT X.K W (toT m) σ H Q) : LE X.K W m σ H fun x H1 => ∃ c, x = .bl c ∧ Q c H1 := by
  obtain ⟨ς, tp, s, o⟩ := h
  refine ⟨ς, tp, s, ?_⟩
  unfold toT at o
  cases h1 : m ς with
  | stuck => rw [h1] at o; exact o
  | exc x ς1 => rw [h1] at o; exact o
  | ok r ς1 =>
    rw [h1] at o
    intro x H1 s1 a1
    have o : OutT X.K W σ tp Q (kB r ς1) := o
    unfold kB at o
    split at o
    · rename_i c hc
      obtain ⟨d, hd, hf⟩ := pk1_ok s1 a1 hc
      have e : d = .bool c := by simpa using hf
      subst e
      exact ⟨c, dp_bl hd, o H1 s1.dropL⟩
    · exact o.elim
theorem dt_ch {op op' : CmpOp} {r r' : R2} {c : Expr} {f f' : PyData → PyData → Option PyData} {ma mb mc : Env → Res Rv} (ho : OpR X (compareOp op) r) (hf : OpD X.K f r) (ho' : OpR X (compareOp op') r') (hf' : OpD X.K f' r') (ha : DE X W a ma) (hb : DE X W b mb) (hc : DE X W c mc)
    (hm : lastMarks [op, op'] [b, c] = false := by with_unfolding_all rfl) : DT X W (.Compare a [op, op'] [b, c] pos) (toT (mCh f f' ma mb mc)) :=
  pt_weak (pt_chain ho ho' ha hb hc hm) fun σ H Q h => le_ch hf hf' (lt_toT h)
end
end Vm
end
section
set_option Elab.async false
set_option linter.all false
set_option maxRecDepth 100000
namespace Vm
open PySem L2 PySem.W

section
variable {X : Cx} {W : WX} {e a b : Expr} {es : List Expr} {pos : Pos}
/-! ### is None as a test -/
def fNo (g : Bool → Bool) (d : PyData) : Option PyData := (fIsN d).map fun c => match c with
    | .bool b => .bool (g b)
    | c => c
theorem isN_T {g : Bool → Bool} {ma : Env → Res Rv} {σ : L2.St} {H : Hp} {Q : Bool → Hp → Prop} (h : LT X.K W (toT (mUn (fNo g) ma)) σ H Q) :
    LE X.K W ma σ H fun x H1 => ∃ c, V.bl (g (decide (x = .non))) = .bl c ∧ Q c H1 := by
  have q := lt_toT h
  exact pc_isN_ok (g := g) (Q := fun x H1 => ∃ c, x = .bl c ∧ Q c H1) q
theorem dt_isN {ma : Env → Res Rv} {j : Nat} {p' : Pos} (ha : DE X W a ma) : DT X W (.Compare a [.Is] [.Constant .none j p'] pos) (toT (mUn (fNo id) ma)) :=
  pt_weak (pt_cmp (pc_isN ha)) fun σ H Q h => isN_T h
theorem dt_notN {ma : Env → Res Rv} {j : Nat} {p' : Pos} (ha : DE X W a ma) : DT X W (.Compare a [.IsNot] [.Constant .none j p'] pos) (toT (mUn (fNo not) ma)) :=
  pt_weak (pt_cmp (pc_notN ha)) fun σ H Q h => isN_T h
/-! ### the module's constants -/
theorem de_gi {x : Str} {i : Int} (hm : ∃ t, X.mg x = some (.int i t)) (hg : Gl X x := by rfl) (hd : (x == ("__debug__" : Str)) = false := by decide) : DE X W (.Name x pos) (mC (.int i)) := by
  obtain ⟨t, hm⟩ := hm
  exact de_glob (v := .int i) hg hm ⟨t, rfl⟩ (fun B => .int i) hd
theorem de_gs {x z : Str} (hm : ∃ t, X.mg x = some (.str z t)) (hg : Gl X x := by rfl) (hd : (x == ("__debug__" : Str)) = false := by decide) : DE X W (.Name x pos) (mC (.str z)) := by
  obtain ⟨t, hm⟩ := hm
  exact de_glob (v := .str z) hg hm ⟨t, rfl⟩ (fun B => .str z) hd
/-! ### shifts -/
def fShl : PyData → PyData → Option PyData
  | .int i, .int j => if 0 ≤ j ∧ j ≤ 1000000 ∧ i.natAbs < 2 ^ 64 then some (.int (i * 2 ^ j.toNat)) else none
  | _, _ => none
def fShr : PyData → PyData → Option PyData
  | .int i, .int j => if 0 ≤ j then some (.int (i / 2 ^ j.toNat)) else none
  | _, _ => none
theorem od_shl {K : PySem.W.Frag} : OpD K fShl (rI CPow fun i j => .int (i * 2 ^ j.toNat)) := fun x y d e c H Q hd he hf q => by
  unfold fShl at hf
  split at hf
  · rename_i i j
    split at hf
    · rename_i hb
      exact ⟨i, j, dp_int hd, dp_int he, hb, q _ (by rw [← Option.some.inj hf]; rfl)⟩
    · cases hf
  · cases hf
theorem od_shr {K : PySem.W.Frag} : OpD K fShr (rI (fun _ j => 0 ≤ j) fun i j => .int (i / 2 ^ j.toNat)) := fun x y d e c H Q hd he hf q => by
  unfold fShr at hf
  split at hf
  · rename_i i j
    split at hf
    · rename_i hb
      exact ⟨i, j, dp_int hd, dp_int he, hb, q _ (by rw [← Option.some.inj hf]; rfl)⟩
    · cases hf
  · cases hf
/-! ### isinstance(x, T), T a builtin's type -/
def isiD (T : String) (d : PyData) : Option Bool := match T with
  | "int" => some d.isInt
  | "bool" => some d.isBool
  | "str" => some d.isStr
  | "list" => some d.isList
  | "tuple" => some d.isTuple
  | _ => none
def kIsi (T : String) (rs : List Rv) (ς : Env) : Res Rv := match rs with
  | [r, _] => match pk1 (isiD T) r ς with
    | some b => .ok (.tm (.d (.bool b))) ς
    | none => .stuck
  | _ => .stuck
def rIsiD (K : PySem.W.Frag) (T : String) : List V → Hp → VK → Prop := fun vs H Q => ∃ x d b, vs = [x, .ty T] ∧ Dp K H x d ∧ isiD T d = some b ∧ Q (.bl b) H
theorem cr_isi (T : String) : CallR X (.builtin "isinstance") (rIsiD X.K T) := by
  rintro pins s σ H xs us Q I r ⟨x, d, b, rfl, hd, hb, q⟩
  obtain ⟨u, w, rfl, ru, rw'⟩ := vals2 r
  cases rw'
  obtain ⟨as, rd⟩ := Dp.reads I d x u hd ru
  have fin : ∀ c tk, b = c → EP X pins σ Q (.bool c) { s with toks := tk } := fun c tk e => ⟨.bl c, H, I.tok tk, rfl, e ▸ q⟩
  unfold isiD at hb
  split at hb
  · exact isinstance_int_data rd fun tk _ => fin _ tk (Option.some.inj hb).symm
  · exact isinstance_bool_data rd fun tk _ => fin _ tk (Option.some.inj hb).symm
  · exact isinstance_str_data rd fun tk _ => fin _ tk (Option.some.inj hb).symm
  · exact isinstance_list_data rd fun tk _ => fin _ tk (Option.some.inj hb).symm
  · exact isinstance_tuple_data rd fun tk _ => fin _ tk (Option.some.inj hb).symm
  · cases hb
theorem de_isi {y : Str} {T : String} {p p2 : Pos} {ma : Env → Res Rv} (hm : X.mg "isinstance" = none) (hm2 : X.mg y = none) (hv : bootBuiltins y = some (.type T)) (ha : DE X W a ma) (hg : Gl X "isinstance" := by rfl) (hg2 : Gl X y := by rfl)
    (hn : y ≠ "__name__" := by decide) (hd : (y == ("__debug__" : Str)) = false := by decide)
    (hv1 : bootBuiltins "isinstance" = some (.builtin "isinstance") := by decide +kernel)
    (he : starEach [a, .Name y p2] X.env = (false, eval a X.env) :: starEach [.Name y p2] X.env := by rfl) (he2 : starEach [.Name y p2] X.env = (false, eval (.Name y p2) X.env) :: starEach [] X.env := by rfl)
    (hpl : (backTo pos (starEach [.Name y p2] X.env)).any (·.1) = false := by rfl) :
    DE X W (.Call (.Name "isinstance" p) [a, .Name y p2] [] pos) (mA (mCons ma (mCons (mU (.raw (.ty T))) mNil)) (kIsi T)) :=
  pe_weak (pe_callB (cr_isi T) hg hm hv1 (da_cons ha (da_cons (de_bn (v := .ty T) hg2 hm2 hv rfl hn hd) da_nil he2) he) (by decide) (by decide) he hpl) fun σ H Q h => by
    obtain ⟨ς, tp, s, o⟩ := h
    refine ⟨ς, tp, s, ?_⟩
    unfold mA at o
    unfold mCons at o ⊢
    cases h1 : ma ς with
    | stuck => rw [h1] at o; exact o
    | exc x ς1 => rw [h1] at o; exact o
    | ok r ς1 =>
      rw [h1] at o
      intro vs H1 s1 a1
      match vs, a1 with
      | [v, w], a1 =>
        have o : OutE X.K W σ tp Q (kIsi T [r, .tm (.raw (.ty T))] ς1) := o
        have s1 : SR X.K H1 σ ς1 (r.tmp v ++ ((w, U.raw (.ty T)) :: tp)) := by simpa [tmps, Rv.tmp] using s1
        have s2 : SR X.K H1 σ ς1 ((w, U.raw (.ty T)) :: tp) := s1.dropL
        have ew : w = .ty T := s2.ahead.dupR
        subst ew
        have o : OutE X.K W σ tp Q (match pk1 (isiD T) r ς1 with
          | some b => .ok (.tm (.d (.bool b))) ς1
          | none => .stuck) := o
        cases hb : pk1 (isiD T) r ς1 with
        | none => rw [hb] at o; exact o.elim
        | some b =>
          rw [hb] at o
          obtain ⟨d, hd, hf⟩ := pk1_ok s1 a1.1 hb
          exact ⟨v, d, b, rfl, hd, hf, o _ H1 (s2.tail.putD rfl) trivial⟩
end
/-! ### blocks -/
def isFree : NameKind → Bool
  | .free => true
  | _ => false
def isCF : Option NameKind → Bool
  | some .cell => true
  | some .free => true
  | _ => false
def isLC : NameKind → Bool
  | .local => true
  | .cell => true
  | _ => false
def blkB (N : List Str) (sc scope : Scope) (own : List (Str × Nat)) : Bool :=
  decide (scope.kind = .function) && (scope.names.all fun y => decide (scope.names.lookup y.1 = some y.2)) && (own.all fun p => decide (N[p.2]? = some p.1)) &&
  (scope.names.all fun y => !isFree y.2 || isCF (sc.names.lookup y.1)) && (scope.names.all fun y => !isLC y.2 || decide (y.1 ∈ own.map (·.1)) || !decide (y.1 ∈ N))
theorem blk_ok {N : List Str} {sc scope : Scope} {own : List (Str × Nat)} (h : blkB N sc scope own = true) : BlkOk N sc scope own := by
  unfold blkB at h
  simp only [Bool.and_eq_true, List.all_eq_true, decide_eq_true_eq] at h
  obtain ⟨⟨⟨⟨h1, h2⟩, h3⟩, h4⟩, h5⟩ := h
  refine ⟨h1, h2, h3, fun y hy e => ?_, fun y hy e => ?_⟩
  · have q := h4 y hy
    rw [e] at q
    cases hl : sc.names.lookup y.1 with
    | none => rw [hl] at q; simp [isFree, isCF] at q
    | some k =>
      rw [hl] at q
      cases k <;> simp [isFree, isCF] at q
      · exact .inl rfl
      · exact .inr rfl
  · have q := h5 y hy
    have e2 : isLC y.2 = true := by rcases e with e | e <;> rw [e] <;> rfl
    rw [e2] at q
    simpa using q
/-! ### contracts -/
theorem fnG_stuck {P : Program} {w : World} {K : PySem.W.Frag} {mg : Str → Option Value} {base : Heap} {CX : CXT} {k n : Nat} {f : Addr} {fd : FuncData} {ps : List Str} : FnG P w K mg base CX k f fd ps (spV K n fun _ => .stuck) :=
  ⟨fun ⟨_, _, _, _, _, h⟩ => h.elim, fun _ _ _ _ _ ⟨_, _, _, _, _, h⟩ => h.elim⟩
theorem tk_cx {P : Program} {w : World} {K : PySem.W.Frag} {mg : Str → Option Value} {base : Heap} {N : List Str} {qual : Str} {scope : Scope} {f : Addr} {cd : Value} {A : Around} {outer : List PySem.Env} {s : Shared} {H : Hp} {E : XK} :
    Tk (cxOf (L2.CX P w) P w K mg base N qual scope f cd A outer s H E) (fun cls d _ H => E cls d H) := tk_of (takes_of rfl rfl rfl rfl)
/-- the law's end -/
theorem law_sp {K : PySem.W.Frag} {φ : Phi} (h : ∀ ns : List Int, ns.length ≤ 63 → ∃ us, φ [.d (.list (ns.map .int))] = .ok (.d (.bool true)) us) (H : Hp) (a : Addr) (ns : List Int) (hl : ns.length ≤ 63) (hS : LstN K H a (ns.map V.int)) :
    spV K 1 φ [.ref a] H (fun v _ => v = .bl true) fun _ _ _ => False := by
  obtain ⟨us, e⟩ := h ns hl
  have all : ∀ ns : List Int, DqAll K H (ns.map V.int) (ns.map .int) := fun ns => by
    induction ns with
    | nil => exact .nil
    | cons n ns ih => exact .cons (.int n) ih
  refine ⟨[.d (.list (ns.map .int))], [], rfl, rfl, ?_, ?_⟩
  · exact ⟨H, [], Same.refl _, .cons (F := []) (.d (.lst hS (all ns))) .nil, List.nodup_nil⟩
  · rw [e]
    exact fun _ v H' s => dp_bl (s.peek rfl)
end Vm
end
section
set_option autoImplicit false
set_option Elab.async false
set_option linter.all false
set_option maxRecDepth 100000
namespace Vm
open PySem L2 PySem.W
/-! repr of a written list: its items are looked at, never shared -/
section
variable {K : PySem.W.Frag} {B B' : Hp}
mutual
theorem dpp_same (e : Same B B') : ∀ (x : PyData) (v : V), Dp K B v x → Dp K B' v x
  | .none, v, h => by cases h; exact .non
  | .bool _, v, h => by cases h; exact .bl _
  | .int _, v, h => by cases h; exact .int _
  | .str _, v, h => by cases h; exact .str _
  | .list xs, v, h => by
    cases h with
    | lst a b => exact .lst (e.seq a) (dppAll_same e xs _ b)
  | .tuple xs, v, h => by
    cases h with
    | tup a b => exact .tup (a.imp (fun h => h.imp (e _ _) fun ⟨o, h⟩ => ⟨o, e _ _ h⟩) id) (dppAll_same e xs _ b)
  | .dict _, v, h => by cases h
theorem dppAll_same (e : Same B B') : ∀ (xs : List PyData) (vs : List V), DpAll K B vs xs → DpAll K B' vs xs
  | [], vs, h => by cases h; exact .nil
  | x :: xs, vs, h => by
    cases h with
    | cons a b => exact .cons (dpp_same e x _ a) (dppAll_same e xs _ b)
end
theorem dpAll_len : ∀ {vs : List V} {ds : List PyData}, DpAll K B vs ds → vs.length = ds.length
  | [], ds, h => by cases h; rfl
  | v :: vs, ds, h => by
    cases h with
    | cons a b => rw [List.length_cons, List.length_cons, dpAll_len b]
end
section
variable {X : Cx} {W : WX} {es : List Expr} {pos q : Pos}
def kReprL (rs : List Rv) (ς : Env) : Res Rv := match peeks ς rs with
  | some ds => if ds.length ≤ 1000 then match fRepr (.list ds) with
    | some c => .ok (.tm (.d c)) ς
    | none => .stuck
    else .stuck
  | none => .stuck
theorem de_reprL {x : Str} {p : Pos} {ms : Env → Res (List Rv)} (hg : NoG X.A) (hu : X.A.units + 64 < cLine) (hx : Gl X x) (hm : X.mg x = none) (hv : bootBuiltins x = some (.builtin "repr")) (ha : DA X W es ms)
    (hn : x ≠ "__name__" := by decide) (hdb : (x == ("__debug__" : Str)) = false := by decide) (he : starEach [.List es q] X.env = (false, eval (.List es q) X.env) :: starEach [] X.env := by rfl)
    (hpl : (backTo pos (starEach [] X.env)).any (·.1) = false := by rfl) : DE X W (.Call (.Name x p) [.List es q] [] pos) (mA ms kReprL) := by
  refine pe_weak (pe_callB (cr_repr hg hu) hx hm hv (pa_cons (pe_lst ha) pa_nil he) hn hdb he hpl) fun σ H Q h => le_a h fun vs H rs ς tp s a o => ?_
  unfold kReprL at o
  split at o
  · rename_i ds hd
    split at o
    · rename_i hz
      split at o
      · rename_i c hc
        have D := peeks_ok s a hd
        have hl : vs.length = ds.length := dpAll_len D
        refine ⟨le1000 (hl ▸ hz), fun p hp => ⟨.ref p, .list ds, c, rfl, .lst (.inl (.inl upd_same)) (dppAll_same (same_upd hp) ds vs D), hc, fun v hv => o v _ ?_ trivial⟩⟩
        have s0 : SR X.K H σ ς tp := s.dropL
        have s1 : SR X.K (upd H p (.lst vs)) σ ς tp := s0.sub (s0.sp.laid hp)
        exact s1.putD hv
      · exact o.elim
    · exact o.elim
  · exact o.elim
end
end Vm
end
section
set_option autoImplicit false
set_option Elab.async false
set_option linter.all false
set_option maxRecDepth 100000
namespace Vm
open PySem L2 PySem.W
/-! ranges with a step -/
def rngC (lo c : Int) (n : Nat) : List U := (List.range n).map fun i => .d (.int (lo + (i : Nat) * c))
theorem src_rangeC {K : PySem.W.Frag} {lo c : Int} {n : Nat} : Src K (Itc lo c n) (rngC lo c n) [] := by
  have hl : (rngC lo c n).length = n := by simp [rngC]
  refine ⟨fun _ => True, YFn fun i => .int (lo + (i : Nat) * c), by rw [hl]; exact walk_rangeC, fun _ _ _ => trivial, fun i H x H' ps hi y s => ?_⟩
  obtain ⟨rfl, rfl⟩ := y
  exact ⟨.d (.int (lo + (i : Nat) * c)), by rw [hl] at hi; simp [rngC, hi], s.put0 fun B _ => .d (.int _)⟩
def rcOk (i j c : Int) : Bool := decide (c ≠ 0) && decide (c.natAbs < 1073741824) && Builtin.Range.small i j c && decide (0 ≤ Builtin.Range.rangeSize i j c)
def kRng3 (rs : List Rv) (ς : Env) : Res (List U) := match peeks ς rs with
  | some [.int i, .int j, .int c] => if rcOk i j c then .ok (rngC i c (Builtin.Range.rangeSize i j c).toNat) ς else .stuck
  | _ => .stuck
def mRng3 (ms : Env → Res (List Rv)) : Env → Res (List U) := mA ms kRng3
section
variable {X : Cx} {W : WX} {tg a b c : Expr}
theorem di_range3 {p pos : Pos} {ms : Env → Res (List Rv)} (hg : Gl X "range") (hm : X.mg "range" = none) (ha : DA X W [a, b, c] ms)
    (hs : starEach [a, b, c] X.env = (false, eval a X.env) :: starEach [b, c] X.env := by rfl) (hpl : (backTo pos (starEach [b, c] X.env)).any (·.1) = false := by rfl) :
    DI X W tg (.Call (.Name "range" p) [a, b, c] [] pos) (mRng3 ms) :=
  pi_weak (pi_range3 hg hm ha hs hpl) fun σ H R h => li_a h fun vs H rs ς tp s a o => by
    unfold kRng3 at o
    split at o
    · rename_i i j k hj
      obtain ⟨v, w, z, rfl, hd, he, hf⟩ := dpAll3 (peeks_ok s a hj)
      have e1 := dp_int hd
      have e2 := dp_int he
      have e3 := dp_int hf
      subst e1; subst e2; subst e3
      split at o
      · rename_i hb
        unfold rcOk at hb
        rw [Bool.and_eq_true, Bool.and_eq_true, Bool.and_eq_true] at hb
        obtain ⟨⟨⟨h1, h2⟩, h3⟩, h4⟩ := hb
        have h4 := of_decide_eq_true h4
        exact ⟨i, j, k, (Builtin.Range.rangeSize i j k).toNat, rfl, ⟨of_decide_eq_true h1, of_decide_eq_true h2, h3, by omega⟩, o _ H [] s.dropL src_rangeC⟩
      · exact o.elim
    · exact o.elim
end
end Vm
end
section
set_option autoImplicit false
set_option Elab.async false
set_option linter.all false
set_option maxRecDepth 100000
namespace Vm
open PySem L2 PySem.W
/-! list(range(..)), tuple(range(..)) -/
def rngD (lo : Int) (n : Nat) : List PyData := (List.range n).map fun i => .int (lo + (i : Nat))
theorem sp_ints {K : PySem.W.Frag} {H : Hp} {ps : PL} (s : SP K H ps) : ∀ ns : List Int, SP K H ((ns.map V.int).zip ((ns.map PyData.int).map U.d) ++ ps)
  | [] => s
  | n :: ns => (sp_ints s ns).int n
theorem sp_rng {K : PySem.W.Frag} {H : Hp} {ps : PL} (s : SP K H ps) (a b : Int) : SP K H ((rgV a b).zip ((rngD a (b - a).toNat).map U.d) ++ ps) := by
  have h := sp_ints s ((List.range (b - a).toNat).map fun i => a + (i : Nat))
  rw [List.map_map, List.map_map (f := fun i : Nat => a + (i : Nat)) (g := PyData.int)] at h
  exact h
theorem rngD_len (lo : Int) (n : Nat) : (rngD lo n).length = n := by simp [rngD]
def rgOk (a b : Int) : Bool := big62 a && big62 b && decide ((b - a).toNat ≤ 1000000)
theorem rgOk_ok {a b : Int} (h : rgOk a b = true) : RgOk a b := by
  unfold rgOk at h
  rw [Bool.and_eq_true, Bool.and_eq_true] at h
  obtain ⟨h1, h2⟩ := big62_ok h.1.1
  obtain ⟨h3, h4⟩ := big62_ok h.1.2
  have h5 := of_decide_eq_true h.2
  have e : (2 : Nat) ^ 24 = 16777216 := by decide
  exact ⟨h1, h2, h3, h4, by omega⟩
def kL1 (r : Rv) (ς : Env) : Res Rv := match pk1 some r ς with
  | some (.int j) => if rgOk 0 j then .ok (.tm (.own ((rngD 0 (j - 0).toNat).map .d))) ς else .stuck
  | _ => .stuck
def kT1 (r : Rv) (ς : Env) : Res Rv := match pk1 some r ς with
  | some (.int j) => if rgOk 0 j then .ok (.tm (.d (.tuple (rngD 0 (j - 0).toNat)))) ς else .stuck
  | _ => .stuck
def kL2 (ra rb : Rv) (ς : Env) : Res Rv := match pk1 some ra ς, pk1 some rb ς with
  | some (.int i), some (.int j) => if rgOk i j then .ok (.tm (.own ((rngD i (j - i).toNat).map .d))) ς else .stuck
  | _, _ => .stuck
def kT2 (ra rb : Rv) (ς : Env) : Res Rv := match pk1 some ra ς, pk1 some rb ς with
  | some (.int i), some (.int j) => if rgOk i j then .ok (.tm (.d (.tuple (rngD i (j - i).toNat)))) ς else .stuck
  | _, _ => .stuck
def tTupRgF (te : St → Hp → (Int → Int → Hp → Prop) → Prop) : TE := fun σ H Q => te σ H fun a b H1 => RgOk a b ∧ NewT H1 (rgV a b) Q
section
open PyProof.Rows PySem.Spec
variable {X : Cx} {W : WX} {a b e : Expr} {te : L2.St → Hp → (Int → Int → Hp → Prop) → Prop}
theorem pe_tupRgF {p pos : Pos} (hc : X.calm = true) (hg : Gl X "tuple") (hm : X.mg "tuple" = none) (he : PRg X e te) (na : starEach [e] X.env = (false, eval e X.env) :: starEach [] X.env := by rfl) : PE X (.Call (.Name "tuple" p) [e] [] pos) (tTupRgF te) := by
  refine ⟨fun pins s σ H Q I h => ?_⟩
  refine Call_ (ld_blt I hg hm boot_tuple (PyProof.Rows.callWith_type1 (args_cons (thn (he pins s σ H _ I h) fun x s1 ⟨r, a, b, t, u, v, H1, ex, hr, I1, ok, q⟩ => args_nil ?_) na) na))
  subst ex
  obtain ⟨b1, b2, b3, b4, b5⟩ := ok
  refine call_tuple_range (n := (b - a).toNat) (I1.ok.hd hc) hr (small_one b1 b2 b3 b4) (rangeSize_nat a b) b5 fun h' tk acc hk hi => ?_
  have I2 : Inv X pins σ H1 { s1 with heap := h', toks := tk } := I1.kept hk
  have z : (rgV a b).length ≤ sizeLine := by rw [rgV_length, sizeLine_eq]; omega
  have q' := NewT.end_ (tk := tk) I2 (vals_rg hi) z q
  rw [Array.toArray_toList] at q'
  exact q'
variable {ma mb : Env → Res Rv} {p q pos : Pos}
theorem de_lrg1 (hc : X.calm = true) (hgl : Gl X "list") (hml : X.mg "list" = none) (hg : Gl X "range") (hm : X.mg "range" = none) (h : DE X W a ma)
    (na : starEach [a] X.env = (false, eval a X.env) :: starEach [] X.env := by rfl) (nb : starEach [.Call (.Name "range" p) [a] [] q] X.env = (false, eval (.Call (.Name "range" p) [a] [] q) X.env) :: starEach [] X.env := by rfl) {p' : Pos} :
    DE X W (.Call (.Name "list" p') [.Call (.Name "range" p) [a] [] q] [] pos) (m1 ma kL1) :=
  pe_weak (pe_listRg hc hgl hml (prg_1 hg hm h na) nb) fun σ H Q h => le_1 h fun v H ra ς tp s at_ o => by
    unfold kL1 at o
    split at o
    · rename_i j hj
      split at o
      · rename_i hb
        obtain ⟨d, hd, e⟩ := pk1_ok s at_ hj
        cases e
        refine ⟨j, dp_int hd, rgOk_ok hb, fun q hq => o _ _ ?_ trivial⟩
        have s0 : SR X.K H σ ς tp := s.dropL
        exact s0.of_ahead ((sp_rng s0.sp 0 j).newOwn (by rw [rgV_length, List.length_map, rngD_len]) hq)
      · exact o.elim
    · exact o.elim
theorem de_trg1 (hc : X.calm = true) (hgl : Gl X "tuple") (hml : X.mg "tuple" = none) (hg : Gl X "range") (hm : X.mg "range" = none) (h : DE X W a ma)
    (na : starEach [a] X.env = (false, eval a X.env) :: starEach [] X.env := by rfl) (nb : starEach [.Call (.Name "range" p) [a] [] q] X.env = (false, eval (.Call (.Name "range" p) [a] [] q) X.env) :: starEach [] X.env := by rfl) {p' : Pos} :
    DE X W (.Call (.Name "tuple" p') [.Call (.Name "range" p) [a] [] q] [] pos) (m1 ma kT1) :=
  pe_weak (pe_tupRgF hc hgl hml (prg_1 hg hm h na) nb) fun σ H Q h => le_1 h fun v H ra ς tp s at_ o => by
    unfold kT1 at o
    split at o
    · rename_i j hj
      split at o
      · rename_i hb
        obtain ⟨d, hd, e⟩ := pk1_ok s at_ hj
        cases e
        refine ⟨j, dp_int hd, rgOk_ok hb, fun q ob hq ho => o _ _ ?_ trivial⟩
        have s0 : SR X.K H σ ς tp := s.dropL
        exact s0.of_ahead ((sp_rng s0.sp 0 j).newTup (by rw [rgV_length, rngD_len]) ho hq)
      · exact o.elim
    · exact o.elim
theorem de_lrg2 (hc : X.calm = true) (hgl : Gl X "list") (hml : X.mg "list" = none) (hg : Gl X "range") (hm : X.mg "range" = none) (h : DE X W a ma) (h2 : DE X W b mb)
    (na : starEach [a, b] X.env = (false, eval a X.env) :: starEach [b] X.env := by rfl) (nb : starEach [b] X.env = (false, eval b X.env) :: starEach [] X.env := by rfl) (hp : (backTo q (starEach [b] X.env)).any (·.1) = false := by rfl)
    (nc : starEach [.Call (.Name "range" p) [a, b] [] q] X.env = (false, eval (.Call (.Name "range" p) [a, b] [] q) X.env) :: starEach [] X.env := by rfl) {p' : Pos} :
    DE X W (.Call (.Name "list" p') [.Call (.Name "range" p) [a, b] [] q] [] pos) (m2 ma mb kL2) :=
  pe_weak (pe_listRg hc hgl hml (prg_2 hg hm h h2 na nb hp) nc) fun σ H Q h => le_2 h fun x y H ra rb ς tp s a1 a2 o => by
    unfold kL2 at o
    split at o
    · rename_i i j hi hj
      split at o
      · rename_i hb
        obtain ⟨d2, hd2, e2⟩ := pk1_ok s a2 hj
        cases e2
        have s1 : SR X.K H σ ς (ra.tmp x ++ tp) := s.dropL
        obtain ⟨d, hd, e⟩ := pk1_ok s1 a1 hi
        cases e
        refine ⟨i, j, dp_int hd, dp_int hd2, rgOk_ok hb, fun q hq => o _ _ ?_ trivial⟩
        have s0 : SR X.K H σ ς tp := s1.dropL
        exact s0.of_ahead ((sp_rng s0.sp i j).newOwn (by rw [rgV_length, List.length_map, rngD_len]) hq)
      · exact o.elim
    · exact o.elim
theorem de_trg2 (hc : X.calm = true) (hgl : Gl X "tuple") (hml : X.mg "tuple" = none) (hg : Gl X "range") (hm : X.mg "range" = none) (h : DE X W a ma) (h2 : DE X W b mb)
    (na : starEach [a, b] X.env = (false, eval a X.env) :: starEach [b] X.env := by rfl) (nb : starEach [b] X.env = (false, eval b X.env) :: starEach [] X.env := by rfl) (hp : (backTo q (starEach [b] X.env)).any (·.1) = false := by rfl)
    (nc : starEach [.Call (.Name "range" p) [a, b] [] q] X.env = (false, eval (.Call (.Name "range" p) [a, b] [] q) X.env) :: starEach [] X.env := by rfl) {p' : Pos} :
    DE X W (.Call (.Name "tuple" p') [.Call (.Name "range" p) [a, b] [] q] [] pos) (m2 ma mb kT2) :=
  pe_weak (pe_tupRgF hc hgl hml (prg_2 hg hm h h2 na nb hp) nc) fun σ H Q h => le_2 h fun x y H ra rb ς tp s a1 a2 o => by
    unfold kT2 at o
    split at o
    · rename_i i j hi hj
      split at o
      · rename_i hb
        obtain ⟨d2, hd2, e2⟩ := pk1_ok s a2 hj
        cases e2
        have s1 : SR X.K H σ ς (ra.tmp x ++ tp) := s.dropL
        obtain ⟨d, hd, e⟩ := pk1_ok s1 a1 hi
        cases e
        refine ⟨i, j, dp_int hd, dp_int hd2, rgOk_ok hb, fun q ob hq ho => o _ _ ?_ trivial⟩
        have s0 : SR X.K H σ ς tp := s1.dropL
        exact s0.of_ahead ((sp_rng s0.sp i j).newTup (by rw [rgV_length, rngD_len]) ho hq)
      · exact o.elim
    · exact o.elim
end
end Vm
end
section
set_option Elab.async false
set_option linter.all false
set_option maxRecDepth 100000
namespace Vm
open PySem L2 PySem.W PySem.Spec PyProof.Rows
/-! ### data of the written part -/
mutual
def datB (K : PySem.W.Frag) : PyData → Value → Bool
  | .none, .none => true
  | .bool b, .bool c => b == c
  | .int i, .int j _ => decide (i = j)
  | .str x, .str y _ => decide (x = y)
  | .tuple ds, .ref a => (match K.lookup a with
    | some ⟨.type c, none, .seq its _, _⟩ => decide (c = "tuple") && (decide (its.size ≤ sizeLine) && datAll K ds its.toList)
    | _ => false)
  | _, _ => false
def datAll (K : PySem.W.Frag) : List PyData → List Value → Bool
  | [], [] => true
  | d :: ds, u :: us => datB K d u && datAll K ds us
  | _, _ => false
end
mutual
theorem datB_ok {K : PySem.W.Frag} : ∀ (d : PyData) (u : Value), datB K d u = true → ∃ v, RelV v u ∧ ∀ B, Dq K B v d
  | .none, u, h => by
    cases u <;> first | exact ⟨.non, rfl, fun _ => .non⟩ | (simp [datB] at h)
  | .bool b, u, h => by
    cases u <;> first | (simp [datB] at h; subst h; exact ⟨.bl b, rfl, fun _ => .bl b⟩) | (simp [datB] at h)
  | .int i, u, h => by
    cases u <;> first | (simp [datB] at h; subst h; exact ⟨.int i, ⟨_, rfl⟩, fun _ => .int i⟩) | (simp [datB] at h)
  | .str x, u, h => by
    cases u <;> first | (simp [datB] at h; subst h; exact ⟨.str x, ⟨_, rfl⟩, fun _ => .str x⟩) | (simp [datB] at h)
  | .list ds, u, h => by cases u <;> simp [datB] at h
  | .dict es, u, h => by cases u <;> simp [datB] at h
  | .tuple ds, u, h => by
    cases u with
    | ref a =>
      unfold datB at h
      split at h
      · rename_i c its n sl hk
        simp only [Bool.and_eq_true, decide_eq_true_eq] at h
        obtain ⟨h1, h2, h3⟩ := h
        subst h1
        obtain ⟨vs, r, hd⟩ := datAll_ok ds its.toList h3
        exact ⟨.ref a, rfl, fun B => .tup (.inr ⟨_, its, n, ⟨rfl, rfl⟩, hk, rfl, h2, r⟩) (hd B)⟩
      · cases h
    | _ => simp [datB] at h
theorem datAll_ok {K : PySem.W.Frag} : ∀ (ds : List PyData) (us : List Value), datAll K ds us = true → ∃ vs, Vals vs us ∧ ∀ B, DqAll K B vs ds
  | [], [], _ => ⟨[], .nil, fun _ => .nil⟩
  | d :: ds, u :: us, h => by
    unfold datAll at h
    obtain ⟨h1, h2⟩ := Bool.and_eq_true_iff.mp h
    obtain ⟨v, r, hv⟩ := datB_ok d u h1
    obtain ⟨vs, rs, hvs⟩ := datAll_ok ds us h2
    exact ⟨v :: vs, .cons r rs, fun B => .cons (hv B) (hvs B)⟩
  | [], _ :: _, h => by simp [datAll] at h
  | _ :: _, [], h => by simp [datAll] at h
end
/-- the module's name x stands for these data -/
def datC (K : PySem.W.Frag) (x : Str) (d : PyData) : Bool := match PySem.W.nsIn K mainGlobals x with
  | some (some u) => datB K d u
  | _ => false
theorem datC_ok {K : PySem.W.Frag} {h : Heap} {mg : Str → Option Value} (X : K.In h) (G : h.Ns mainGlobals mg) {x : Str} {d : PyData} (c : datC K x d = true) : ∃ u v, mg x = some u ∧ RelV v u ∧ ∀ B, Dq K B v d := by
  unfold datC at c
  split at c
  · rename_i u e
    obtain ⟨v, r, hd⟩ := datB_ok d u c
    exact ⟨u, v, PySem.W.mg_of X G e, r, hd⟩
  · cases c
section
variable {X : Cx} {W : WX} {pos : Pos}
theorem de_gd {x : Str} {d : PyData} (hm : ∃ u v, X.mg x = some u ∧ RelV v u ∧ ∀ B, Dq X.K B v d) (hg : Gl X x := by rfl) (hd : (x == ("__debug__" : Str)) = false := by decide) : DE X W (.Name x pos) (mC d) := by
  obtain ⟨u, v, hm, r, hq⟩ := hm
  exact de_glob hg hm r hq hd
end
/-! ### a hook with one more Bool -/
abbrev AlV : Type := He.AlD × Bool
def obsV (n : Nat) (fa : List He.Fa) (fn : List He.DefD) (ex : PySem.W.Frag → Bool) (g : Addr → Option Obj) : AlV := (He.obsD fa fn (He.frG g (He.asD g n)), ex (He.frG g (He.asD g n)))
structure SaysV (fa : List He.Fa) (fn : List He.DefD) (ex : PySem.W.Frag → Bool) (K : PySem.W.Frag) : Prop where
  d : He.SaysD fa fn K
  more : ex K = true
def hookV (n : Nat) (fa : List He.Fa) (fn : List He.DefD) (ex : PySem.W.Frag → Bool) : PySem.W.Hook where
  α := AlV
  obs := fun s => obsV n fa fn ex s.heap.get?
  val := fun _ => (He.valD fn, true)
  says := fun _ h => ∃ K : PySem.W.Frag, K.In h ∧ SaysV fa fn ex K
  of := fun _ _ e => ⟨_, He.frG_in, ⟨congrArg Prod.fst e, congrArg Prod.snd e⟩⟩
  keeps := fun _ _ _ ⟨K, hK, c⟩ k => ⟨K, PySem.W.Frag.In.keeps hK k, c⟩
theorem obsV_eq {n : Nat} {fa : List He.Fa} {fn : List He.DefD} {ex : PySem.W.Frag → Bool} {g : Addr → Option Obj} {s : Shared} (h : ∀ a, g a = s.heap.get? a) : obsV n fa fn ex g = (hookV n fa fn ex).obs s := by
  have e : g = s.heap.get? := funext h
  rw [e] <;> rfl
/-! ### a def with one default, all arguments given or the last one not -/
section
variable {K : PySem.W.Frag} {x qual : Str} {params : Arguments} {body : List Stmt} {scope : Scope} {f : Addr} {fd : FuncData} {ps : List Str}
end
end Vm
end
section
set_option Elab.async false
set_option linter.all false
set_option maxRecDepth 100000
namespace Vm
open PySem L2 PySem.W PySem.Spec PyProof.Rows
/-- the module's name x stands for this built-in function -/
def bltC (K : PySem.W.Frag) (x : Str) (id : String) : Bool := He.eqO (PySem.W.nsIn K mainGlobals x) (some (some (.builtin id)))
theorem bltC_ok {K : PySem.W.Frag} {h : Heap} {mg : Str → Option Value} (X : K.In h) (G : h.Ns mainGlobals mg) {x : Str} {id : String} (c : bltC K x id = true) : mg x = some (.builtin id) := PySem.W.mg_of X G (He.eqO_ok c)
/-! ### isinstance(x, (T1, T2)), builtins' types -/
def tyN : PyData → String
  | .none => "NoneType"
  | .bool _ => "bool"
  | .int _ => "int"
  | .str _ => "str"
  | .list _ => "list"
  | .tuple _ => "tuple"
  | .dict _ => "dict"
def isi2D (T1 T2 : String) (d : PyData) : Option Bool := match kitB (tyN d) T1, kitB (tyN d) T2 with
  | some a, some b => some (a || b)
  | _, _ => none
theorem dp_ty {K : PySem.W.Frag} {H : Hp} {v : V} {d : PyData} (h : Dp K H v d) : TyX K H v (.type (tyN d)) := by
  cases h with
  | non => exact .base .non
  | bl b => exact .base (.bl b)
  | int i => exact .base (.int i)
  | str x => exact .base (.str x)
  | lst a b =>
    rcases a with (a | ⟨o, a⟩) | ⟨o, its, n, a, c, _⟩
    · exact .base (.lst a)
    · exact .base (.frz a)
    · exact .kList a c
  | tup a b =>
    rcases a with (a | ⟨o, a⟩) | ⟨o, its, n, a, c, _⟩
    · exact .base (.tup a)
    · exact .fTuple a
    · exact .kTuple a c
def kIsi2 (T1 T2 : String) (rs : List Rv) (ς : Env) : Res Rv := match rs with
  | [r, _] => match pk1 (isi2D T1 T2) r ς with
    | some b => .ok (.tm (.d (.bool b))) ς
    | none => .stuck
  | _ => .stuck
section
variable {X : Cx} {W : WX} {pos : Pos} {a : Expr}
theorem de_tyn {y : Str} {T : String} {p : Pos} (hm : X.mg y = none) (hv : bootBuiltins y = some (.type T)) (hg : Gl X y := by rfl) (hn : y ≠ "__name__" := by decide) (hd : (y == ("__debug__" : Str)) = false := by decide) :
    DE X W (.Name y p) (mU (.raw (.ty T))) := de_bn (v := .ty T) hg hm hv rfl hn hd
theorem de_ty2 {y1 y2 : Str} {T1 T2 : String} {k : Nat} {p1 p2 : Pos} (h1 : DE X W (.Name y1 p1) (mU (.raw (.ty T1)))) (h2 : DE X W (.Name y2 p2) (mU (.raw (.ty T2)))) : DE X W (.Tuple [.Name y1 p1, .Name y2 p2] k pos) (mU (.pr [.raw (.ty T1), .raw (.ty T2)])) := by
  have ha : DA X W [.Name y1 p1, .Name y2 p2] (mCons (mU (.raw (.ty T1))) (mCons (mU (.raw (.ty T2))) mNil)) := da_cons h1 (da_cons h2 da_nil)
  refine pe_weak (pe_tup ha) fun σ H Q ⟨ς, tp, s, o⟩ => ⟨ς, tp, s, ?_⟩
  show OutA X.K W σ tp _ (.ok [.tm (.raw (.ty T1)), .tm (.raw (.ty T2))] ς)
  intro vs H1 s1 a1
  have hl := a1.length
  refine ⟨le1000 (by rw [hl]; show 2 ≤ 1000; decide), fun p hp => o _ _ ?_ trivial⟩
  match vs, a1 with
  | [v, w], a1 =>
    have s1 : SR X.K H1 σ ς ((v, .raw (.ty T1)) :: (w, .raw (.ty T2)) :: tp) := s1
    have q : SP X.K H1 ([v, w].zip [U.raw (.ty T1), .raw (.ty T2)] ++ (sl σ ς ++ tp)) := s1.sp.perm (by
      show List.Perm (sl σ ς ++ ([(v, U.raw (.ty T1)), (w, .raw (.ty T2))] ++ tp)) ([(v, U.raw (.ty T1)), (w, .raw (.ty T2))] ++ (sl σ ς ++ tp))
      exact swapL)
    have q2 := q.newPr rfl hp
    have s0 : SR X.K H1 σ ς tp := (SR.tail (SR.tail s1))
    exact s0.of_ahead q2
def mIsi2 (T1 T2 : String) (ma : Env → Res Rv) : Env → Res Rv := m1 ma fun r ς => match pk1 (isi2D T1 T2) r ς with
  | some b => .ok (.tm (.d (.bool b))) ς
  | none => .stuck
theorem de_isi2 {y1 y2 : Str} {T1 T2 : String} {k : Nat} {p p1 p2 p3 : Pos} {ma : Env → Res Rv} (hm : X.mg "isinstance" = none) (ha : DE X W a ma) (h1 : DE X W (.Name y1 p1) (mU (.raw (.ty T1)))) (h2 : DE X W (.Name y2 p2) (mU (.raw (.ty T2)))) (hg : Gl X "isinstance" := by rfl)
    (hv1 : bootBuiltins "isinstance" = some (.builtin "isinstance") := by decide +kernel)
    (he : starEach [a, .Tuple [.Name y1 p1, .Name y2 p2] k p3] X.env = (false, eval a X.env) :: starEach [.Tuple [.Name y1 p1, .Name y2 p2] k p3] X.env := by rfl) (he2 : starEach [.Tuple [.Name y1 p1, .Name y2 p2] k p3] X.env = (false, eval (.Tuple [.Name y1 p1, .Name y2 p2] k p3) X.env) :: starEach [] X.env := by rfl)
    (hpl : (backTo pos (starEach [.Tuple [.Name y1 p1, .Name y2 p2] k p3] X.env)).any (·.1) = false := by rfl) :
    DE X W (.Call (.Name "isinstance" p) [a, .Tuple [.Name y1 p1, .Name y2 p2] k p3] [] pos) (mIsi2 T1 T2 ma) :=
  pe_weak (pe_callB call_isiT hg hm hv1 (da_cons ha (da_cons (de_ty2 (pos := p3) h1 h2) da_nil he2) he) (by decide) (by decide) he hpl) fun σ H Q h => by
    obtain ⟨ς, tp, s, o⟩ := h
    refine ⟨ς, tp, s, ?_⟩
    unfold mIsi2 m1 at o
    unfold mCons
    cases h1 : ma ς with
    | stuck => rw [h1] at o; exact o
    | exc x ς1 => rw [h1] at o; exact o
    | ok r ς1 =>
      rw [h1] at o
      intro vs H1 s1 a1
      match vs, a1 with
      | [v, w], a1 =>
        have s1 : SR X.K H1 σ ς1 (r.tmp v ++ ((w, U.pr [.raw (.ty T1), .raw (.ty T2)]) :: tp)) := by simpa [tmps, Rv.tmp] using s1
        have s2 : SR X.K H1 σ ς1 ((w, U.pr [.raw (.ty T1), .raw (.ty T2)]) :: tp) := s1.dropL
        obtain ⟨p, cs, ew, hp, hl, sp⟩ := s2.ahead.itemsP
        subst ew
        have o : OutE X.K W σ tp Q (match pk1 (isi2D T1 T2) r ς1 with
          | some b => .ok (.tm (.d (.bool b))) ς1
          | none => .stuck) := o
        cases hb : pk1 (isi2D T1 T2) r ς1 with
        | none => rw [hb] at o; exact o.elim
        | some b =>
          rw [hb] at o
          obtain ⟨d, hd, hf⟩ := pk1_ok s1 a1.1 hb
          match cs, hl with
          | [c1, c2], _ =>
            have e1 : c1 = .ty T1 := SP.dupR (ps := [(c2, U.raw (.ty T2))] ++ (sl σ ς1 ++ tp)) sp
            have e2 : c2 = .ty T2 := SP.dupR (ps := sl σ ς1 ++ tp) (SP.tail (p := (c1, U.raw (.ty T1))) sp)
            subst e1 e2
            unfold isi2D at hf
            split at hf
            · rename_i x y hx hy
              have hf := Option.some.inj hf
              refine ⟨v, p, _, .type (tyN d), _, b, rfl, hp, .cons (.ty T1) (.cons (.ty T2) .nil), dp_ty hd, ?_, o _ H1 (s2.tail.putD rfl) trivial⟩
              refine kitAny_cons (kit_ty hx) (fun ex => kitAny_cons (kit_ty hy) (fun ey => ?_) (fun ey => ?_)) (fun ex => ?_)
              · rw [← hf, ex, ey]; rfl
              · rw [← hf, ey, Bool.or_true]
              · rw [← hf, ex, Bool.true_or]
            · cases hf
end
theorem isi2_lt_list {xs : List PyData} : isi2D "list" "tuple" (.list xs) = some true := by
  show (match kitB "list" "list", kitB "list" "tuple" with
    | some a, some b => some (a || b)
    | _, _ => none) = _
  decide +kernel
theorem isi2_lt_tuple {xs : List PyData} : isi2D "list" "tuple" (.tuple xs) = some true := by
  show (match kitB "tuple" "list", kitB "tuple" "tuple" with
    | some a, some b => some (a || b)
    | _, _ => none) = _
  decide +kernel
theorem isi2_lt_none : isi2D "list" "tuple" .none = some false := by decide +kernel
theorem isi2_lt_bool {b : Bool} : isi2D "list" "tuple" (.bool b) = some false := by
  show (match kitB "bool" "list", kitB "bool" "tuple" with
    | some a, some b => some (a || b)
    | _, _ => none) = _
  decide +kernel
theorem isi2_lt_int {b : Int} : isi2D "list" "tuple" (.int b) = some false := by
  show (match kitB "int" "list", kitB "int" "tuple" with
    | some a, some b => some (a || b)
    | _, _ => none) = _
  decide +kernel
theorem isi2_lt_str {b : Str} : isi2D "list" "tuple" (.str b) = some false := by
  show (match kitB "str" "list", kitB "str" "tuple" with
    | some a, some b => some (a || b)
    | _, _ => none) = _
  decide +kernel
end Vm
end
section
set_option Elab.async false
set_option linter.all false
set_option maxRecDepth 100000
/-! a head whose top begins with imports: the opening is run on the tree, too -/
noncomputable section
namespace HandSHeadRun
open PySem PySem.W PySem.Calls PyProof.Rows
def goI (st : SharedT → Thread → Option (SharedT × Thread)) : Nat → SharedT → Thread → Option SharedT
  | 0, _, _ => none
  | m + 1, s, t => match t.atExitBegin with
    | some [] => some s
    | some (_ :: _) => none
    | none => match st s t with
      | some (s', t') => frS s' fun s' => goI st m s' t'
      | none => none
theorem goI_ok {tb : String → Option Builtin} {p : Program} {w : World} : ∀ {m : Nat} {s s' : SharedT} {t : Thread}, goI (stepT (denote tb) p w) m s t = some s' → importEnds tb p w m s.abs t = some s'.abs
  | 0, _, _, _, h => by cases h
  | m + 1, s, s', t, h => by
    unfold goI at h
    unfold importEnds
    cases ha : t.atExitBegin with
    | some l =>
      rw [ha] at h
      cases l with
      | nil => cases h; rfl
      | cons a b => cases h
    | none =>
      rw [ha] at h
      cases hs : stepT (denote tb) p w s t with
      | none => rw [hs] at h; cases h
      | some r =>
        obtain ⟨s2, t2⟩ := r
        rw [hs] at h
        have h3 : (frS s2 fun s' => goI (stepT (denote tb) p w) m s' t2) = some s' := h
        rw [frS_eq] at h3
        have q := goI_ok h3
        show (match step (denote tb) p w s.abs t with
          | .go s' t' => importEnds tb p w m s' t'
          | .halt _ _ => none) = some s'.abs
        rw [stepT_spec hs]
        exact q
def startT (p : Program) : SharedT := ⟨.nil, 0, (start p).1.heap.life, (start p).1.gens, (start p).1.drawn, (start p).1.toks, (start p).1.os⟩
theorem startT_eq (p : Program) : (startT p).abs = (start p).1 := rfl
/-- the fenced opening, from the start -/
def openF (st : SharedT → Thread → Option (SharedT × Thread)) (M : Nat) (p : Program) : Option Shared := match goI st M (startT (opening p)) (start (opening p)).2 with
  | some s => fenceModules? p s.abs
  | none => none
theorem openF_ok {M : Nat} {p : Program} {w : World} {s : Shared} (h : openF (stepT (denote treeTable) (opening p) w) M p = some s) : fencedOpening treeTable p w M = some s := by
  unfold openF at h
  unfold fencedOpening
  cases e : goI (stepT (denote treeTable) (opening p) w) M (startT (opening p)) (start (opening p)).2 with
  | none => rw [e] at h; cases h
  | some s1 =>
    rw [e] at h
    have q := goI_ok e
    rw [startT_eq] at q
    rw [q]
    exact h
/-- the top behind it -/
def endG (st : SharedT → Thread → Option (SharedT × Thread)) (M : Nat) (p : Program) (s0 : Shared) : Option SharedT := match putAll s0.heap.objs.toList .nil 0 with
  | some (t, n) => frNat n fun n0 => goF st n0 (s0.heap.nsMap mainGlobals "__annotations__") M ⟨t, n0, s0.heap.life, s0.gens, s0.drawn, s0.toks, s0.os⟩ (topStub p)
  | none => none
theorem endG_ok {M : Nat} {p : Program} {w : World} {s0 : Shared} {s : SharedT} (h : endG (stepT (denote treeTable) p w) M p s0 = some s) :
    topRun treeTable p w s0.heap.objs.size (s0.heap.nsMap mainGlobals "__annotations__") M s0 (topStub p) = some s.abs := by
  unfold endG at h
  cases e : putAll s0.heap.objs.toList .nil 0 with
  | none =>
    rw [e] at h
    cases h
  | some r =>
    obtain ⟨t, n⟩ := r
    rw [e] at h
    have h1 : (frNat n fun n0 => goF (stepT (denote treeTable) p w) n0 (s0.heap.nsMap mainGlobals "__annotations__") M ⟨t, n0, s0.heap.life, s0.gens, s0.drawn, s0.toks, s0.os⟩ (topStub p)) = some s := h
    rw [frNat_eq] at h1
    have q := goF_ok h1
    have eh := putAll_heap e
    have en : s0.heap.objs.size = n := by
      rw [← eh]
      exact absHeap_size t n _
    have eb : (⟨t, n, s0.heap.life, s0.gens, s0.drawn, s0.toks, s0.os⟩ : SharedT).abs = s0 := by
      show (⟨absHeap t n s0.heap.life, s0.gens, s0.drawn, s0.toks, s0.os⟩ : Shared) = _
      rw [eh]
    rw [eb] at q
    rw [en]
    exact q
def ready (s0 : Shared) : Bool := s0.heap.isNs mainGlobals && s0.gens.size == 0
theorem left_imp {p q : Program} {loose : List Str} {Xt : Shared → Bool} {α : Type} {Yf : Shared → α} {Ya : World → α} {M : Nat}
    (run : ∀ (w : World), (openF (stepT (denote treeTable) (opening p) w) M p).bind (fun s0 => (endG (stepT (denote treeTable) p w) M p s0).map fun s => (ready s0, looksF p s0.heap s.abs, openSeen q loose (importedModules p.main.body) Xt true s.abs, Yf s.abs)) = some (true, true, openGood q loose, Ya w)) :
    LeftO p q loose Xt Yf Ya M true := fun w => by
  obtain ⟨s0, h0, h1⟩ := Option.bind_eq_some_iff.mp (run w)
  obtain ⟨s, hs, hv⟩ := Option.map_eq_some_iff.mp h1
  obtain ⟨l0, l1, l2, l3⟩ : _ ∧ _ ∧ _ ∧ _ := by simpa only [Prod.mk.injEq] using hv
  have r := endG_ok hs
  have l1' : (staticsOk (importedModules p.main.body) s0.heap s.abs.heap && namesBound p s.abs.heap && gensDone s.abs && laidKept s0.heap s.abs.heap) = true := l1
  have l0' : (s0.heap.isNs mainGlobals && s0.gens.size == 0) = true := l0
  have t : topFrom treeTable p w M s0 = some s.abs := by
    unfold topFrom
    rw [l0']
    show (topRun treeTable p w s0.heap.objs.size (s0.heap.nsMap mainGlobals "__annotations__") M s0 (topStub p)).bind _ = _
    rw [r]
    show (match staticsOk (importedModules p.main.body) s0.heap s.abs.heap && namesBound p s.abs.heap && gensDone s.abs && laidKept s0.heap s.abs.heap with | true => some s.abs | false => none) = _
    rw [l1']
  unfold openEnds
  rw [openF_ok h0]
  show (topFrom treeTable p w M s0).map _ = _
  rw [t]
  exact congrArg some (Prod.ext l2 l3)
/-- the run's equation -/
def RunImp (r : OpenRow) (q : Program) (H : Hook) (ob : SharedT → H.α) (M : Nat) (loose : List PySem.Str) (w : World) : Prop :=
  (openF (stepQ (denQ tabQ) (opening r.prog) w) M r.prog).bind (fun s0 => (endG (stepQ (denQ tabQ) r.prog w) M r.prog s0).map fun s => (ready s0, looksF r.prog s0.heap s.abs, seenQ q loose (importedModules r.prog.main.body) (fun s => xlAt q [] s && recOk r.toRowW.records s) s.abs, ob s)) = some (true, true, openGood q loose, H.val w)
theorem head_imp {r : OpenRow} {q : Program} {H : Hook} {ob : SharedT → H.α} {M : Nat} {loose : List PySem.Str} {d : DefRec} {kwd : List (PySem.Str × PySem.Expr)} (ho : ∀ s : SharedT, ob s = H.obs s.abs)
    (run : ∀ w, RunImp r q H ob M loose w)
    (hdef : defOf q r.name = some (d, kwd)) (hp : r.prog.theDef r.name = some (d.params, d.body, d.scope)) (hk : kwWritten? d.params.kwonlyargs d.params.kw_defaults = some kwd)
    (hwr : (!r.writes || r.records.isEmpty) = true) (k1 : r.wellSaid = true) (ok : (chainsOk q && opensWell r.prog && (frees r.toRowW && r.within.isEmpty)) = true) (hb : r.prog.bare) (hw : r.toRowW.promised)
    (call : WalkO q loose (XL q []) H.says r.toRowW d kwd fun f vs => PySem.call f vs) : r.Holds := by
  have left : LeftO r.prog q loose (fun s => xlAt q [] s && recOk r.toRowW.records s) H.obs H.val M true :=
    left_imp fun w => by
      have z := run w
      have eo : ob = fun s => H.obs s.abs := funext ho
      unfold RunImp at z
      rw [eo] at z
      rw [stepQ_eq, denQ_eq, tabQ_eq]
      simp only [seenQ_eq]
      exact z
  exact holds_open (r := r) (q := q) (loose := loose) (XP := XL q []) (YP := H.says) (d := d) (kwd := kwd) left H.of H.keeps (fun s z => xl_of s (Bool.and_eq_true_iff.mp z).1) XL.keeps hdef hp hk (fun s z => recFacts_of (Bool.and_eq_true_iff.mp z).2) hwr k1 ok hb hw call
end HandSHeadRun
end
end
section
set_option Elab.async false
set_option linter.all false
set_option maxRecDepth 100000

namespace PG
open PySem L2 PySem.W Vm
noncomputable def m_across_of : Vm.Env → Res Fl := (mRet (mLc [2, 3] (mEnum (mCons (mIx (mVar 0) (mC (.int 2))) mNil)) (gT 2 (gsC (gN 2) (gsC (gN 3) gsN))) (mTs fNe (mOp (fIn false) (mIx (mVar 3) (mC (.int 0))) (mVar 1)) (mOp (fIn false) (mIx (mVar 3) (mC (.int 1))) (mVar 1))) (mVar 2)))
noncomputable def phi_across_of : Phi := runFn 4 2 (fun i => [0, 1].contains i) m_across_of
noncomputable def m_is_integer : Vm.Env → Res Fl := (mRet (mAndV (mA (mCons (mVar 0) (mCons (mU (.raw (.ty "int"))) mNil)) (kIsi "int")) (mNotV (mA (mCons (mVar 0) (mCons (mU (.raw (.ty "bool"))) mNil)) (kIsi "bool")))))
noncomputable def phi_is_integer : Phi := runFn 1 1 (fun i => [0].contains i) m_is_integer
noncomputable def m_is_from_to : Vm.Env → Res Fl := (mRet (mAndV (mCall phi_is_integer [] (mCons (mVar 0) mNil)) (mCh fLe fLe (mVar 1) (mVar 0) (mVar 2))))
noncomputable def phi_is_from_to : Phi := runFn 3 3 (fun i => [0, 1, 2].contains i) m_is_from_to
noncomputable def m_is_wide : Vm.Env → Res Fl := (mRet (mCh fLe fLe (mC (.int 2)) (mA (mCons (mVar 0) mNil) kLen) (mOp fSub (mVar 1) (mC (.int 2)))))
noncomputable def phi_is_wide : Phi := runFn 2 2 (fun i => [0, 1].contains i) m_is_wide
noncomputable def m_is_cut_of : Vm.Env → Res Fl := (mSeq (mIf (mOr (mNot (mB (mA (mCons (mVar 1) (mCons (mU (.raw (.ty "tuple"))) mNil)) (kIsi "tuple")))) (mNot (mB (mCall phi_is_wide [] (mCons (mVar 1) (mCons (mIx (mVar 0) (mC (.int 1))) mNil)))))) (mRet (mC (.bool false))) mNext) (mSeq (mIf (mOr (mNot (mB (mA (mCons (mLc [4] (mSrc (mVar 1)) (gN 4) mYes (mCall phi_is_from_to [] (mCons (mVar 4) (mCons (mC (.int 0)) (mCons (mOp fSub (mIx (mVar 0) (mC (.int 1))) (mC (.int 1))) mNil))))) mNil) (k1D fAll)))) (mTs fNe (mIx (mVar 1) (mC (.int 0))) (mC (.int 0)))) (mRet (mC (.bool false))) mNext) (mRet (mA (mCons (mLc [2, 3] (mZip (mCons (mVar 1) (mCons (mSlc (mVar 1) (mOs (mC (.int 1))) mOn) mNil))) (gT 2 (gsC (gN 2) (gsC (gN 3) gsN))) mYes (mOp fLt (mVar 2) (mVar 3))) mNil) (k1D fAll)))))
noncomputable def phi_is_cut_of : Phi := runFn 5 2 (fun i => [0, 1].contains i) m_is_cut_of
noncomputable def m_want_cut : Vm.Env → Res Fl := (mSeq (mIf (mNot (mB (mCall phi_is_cut_of [] (mCons (mVar 0) (mCons (mVar 1) mNil))))) (fun _ => .stuck) mNext) (mRet (mVar 1)))
noncomputable def phi_want_cut : Phi := runFn 2 2 (fun i => [0, 1].contains i) m_want_cut
noncomputable def m_is_count : Vm.Env → Res Fl := (mRet (mAndV (mCall phi_is_integer [] (mCons (mVar 0) mNil)) (mOp fGe (mVar 0) (mC (.int 0)))))
noncomputable def phi_is_count : Phi := runFn 1 1 (fun i => [0].contains i) m_is_count
noncomputable def m_is_pair_below : Vm.Env → Res Fl := (mSeq (mIf (mOr (mNot (mB (mA (mCons (mVar 0) (mCons (mU (.raw (.ty "tuple"))) mNil)) (kIsi "tuple")))) (mOr (mTs fNe (mA (mCons (mVar 0) mNil) kLen) (mC (.int 2))) (mOr (mNot (mB (mCall phi_is_count [] (mCons (mIx (mVar 0) (mC (.int 0))) mNil)))) (mNot (mB (mCall phi_is_count [] (mCons (mIx (mVar 0) (mC (.int 1))) mNil))))))) (mRet (mC (.bool false))) mNext) (mRet (mAndV (mOp fNe (mIx (mVar 0) (mC (.int 0))) (mIx (mVar 0) (mC (.int 1)))) (mOp fLt (mA (mCons (mVar 0) mNil) (kBest true)) (mVar 1)))))
noncomputable def phi_is_pair_below : Phi := runFn 2 2 (fun i => [0, 1].contains i) m_is_pair_below
noncomputable def m_is_web : Vm.Env → Res Fl := (mSeq (mIf (mOr (mNot (mB (mA (mCons (mVar 0) (mCons (mU (.raw (.ty "tuple"))) mNil)) (kIsi "tuple")))) (mOr (mTs fNe (mA (mCons (mVar 0) mNil) kLen) (mC (.int 3))) (mOr (mNot (mB (mA (mCons (mIx (mVar 0) (mC (.int 0))) (mCons (mU (.raw (.ty "str"))) mNil)) (kIsi "str")))) (mTs fNe (mIx (mVar 0) (mC (.int 0))) (mC (.str "web")))))) (mRet (mC (.bool false))) mNext) (mSeq (mAsgT 2 (mCons (mIx (mVar 0) (mC (.int 1))) (mCons (mIx (mVar 0) (mC (.int 2))) mNil)) (gsC (gN 1) (gsC (gN 2) gsN))) (mSeq (mIf (mOr (mNot (mB (mCall phi_is_from_to [] (mCons (mVar 1) (mCons (mC (.int 4)) (mCons (mC (.int 12)) mNil)))))) (mNot (mB (mA (mCons (mVar 2) (mCons (mU (.raw (.ty "tuple"))) mNil)) (kIsi "tuple"))))) (mRet (mC (.bool false))) mNext) (mSeq (mIf (mNot (mB (mA (mCons (mLc [5] (mSrc (mVar 2)) (gN 5) mYes (mAndV (mCall phi_is_pair_below [] (mCons (mVar 5) (mCons (mVar 1) mNil))) (mOp fLt (mIx (mVar 5) (mC (.int 0))) (mIx (mVar 5) (mC (.int 1)))))) mNil) (k1D fAll)))) (mRet (mC (.bool false))) mNext) (mRet (mA (mCons (mLc [3, 4] (mZip (mCons (mVar 2) (mCons (mSlc (mVar 2) (mOs (mC (.int 1))) mOn) mNil))) (gT 2 (gsC (gN 3) (gsC (gN 4) gsN))) mYes (mOp fLt (mVar 3) (mVar 4))) mNil) (k1D fAll)))))))
noncomputable def phi_is_web : Phi := runFn 6 1 (fun i => [0].contains i) m_is_web
noncomputable def m_want_web : Vm.Env → Res Fl := (mSeq (mIf (mNot (mB (mCall phi_is_web [] (mCons (mVar 0) mNil)))) (fun _ => .stuck) mNext) (mRet (mVar 0)))
noncomputable def phi_want_web : Phi := runFn 1 1 (fun i => [0].contains i) m_want_web
noncomputable def m_across : Vm.Env → Res Fl := (mSeq (mExpr (mCall phi_want_web [] (mCons (mVar 0) mNil))) (mRet (mCall phi_across_of [] (mCons (mVar 0) (mCons (mCall phi_want_cut [] (mCons (mVar 0) (mCons (mVar 1) mNil))) mNil)))))
noncomputable def phi_across : Phi := runFn 2 2 (fun i => [0, 1].contains i) m_across
noncomputable def m_first_lots : Vm.Env → Res Fl := (mSeq (mAsg (mLst (mCons (mTup (mCons (mC (.int 0)) mNil)) mNil)) (gN 1)) (mSeq (mFor (mRng2 (mCons (mC (.int 1)) (mCons (mVar 0) mNil))) (gN 2) (mAsg (mAdd (mVar 1) (mLc [3] (mSrc (mVar 1)) (gN 3) mYes (mAdd (mVar 3) (mTup (mCons (mVar 2) mNil))))) (gN 1))) (mRet (mVar 1))))
noncomputable def phi_first_lots : Phi := runFn 4 1 (fun i => [0].contains i) m_first_lots
noncomputable def m_want_at_most : Vm.Env → Res Fl := (mIf (mTs fGt (mVar 2) (mVar 1)) (fun _ => .stuck) mNext)
noncomputable def phi_want_at_most : Phi := runFn 3 3 (fun i => [0, 1, 2].contains i) m_want_at_most
noncomputable def m_all_cuts : Vm.Env → Res Fl := (mSeq (mAsg (mIx (mCall phi_want_web [] (mCons (mVar 0) mNil)) (mC (.int 1))) (gN 1)) (mSeq (mExpr (mCall phi_want_at_most [] (mCons (mC (.str "corners")) (mCons (mC (.int 8)) (mCons (mVar 1) mNil))))) (mRet (mA (mCons (mLc [2] (mSrc (mCall phi_first_lots [] (mCons (mVar 1) mNil))) (gN 2) (mB (mCall phi_is_wide [] (mCons (mVar 2) (mCons (mVar 1) mNil)))) (mVar 2)) mNil) kSorted))))
noncomputable def phi_all_cuts : Phi := runFn 3 1 (fun i => [0].contains i) m_all_cuts
noncomputable def m_beside_of : Vm.Env → Res Fl := (mSeq (mAsg (mLc [4] (mRng1 (mCons (mIx (mVar 0) (mC (.int 1))) mNil)) (gN 4) mYes (mLst mNil)) (gN 1)) (mSeq (mFor (mSrc (mIx (mVar 0) (mC (.int 2)))) (gT 2 (gsC (gN 2) (gsC (gN 3) gsN))) (mSeq (mExpr (mMut mkAppend (pI (pN 1) (mVar 2)) (mCons (mVar 3) mNil))) (mExpr (mMut mkAppend (pI (pN 1) (mVar 3)) (mCons (mVar 2) mNil))))) (mRet (mLc [5] (mSrc (mVar 1)) (gN 5) mYes (mA (mCons (mVar 5) mNil) kSorted)))))
noncomputable def phi_beside_of : Phi := runFn 6 1 (fun i => [0].contains i) m_beside_of
noncomputable def m_apart_of : Vm.Env → Res Fl := (mSeq (mAsgT 2 (mCons (mCall phi_beside_of [] (mCons (mVar 0) mNil)) (mCons (mLst (mCons (mTup mNil) mNil)) mNil)) (gsC (gN 1) (gsC (gN 2) gsN))) (mSeq (mFor (mRng1 (mCons (mIx (mVar 0) (mC (.int 1))) mNil)) (gN 3) (mAsg (mAdd (mVar 2) (mLc [4] (mSrc (mVar 2)) (gN 4) (mNot (mB (mA (mCons (mLc [5] (mSrc (mVar 4)) (gN 5) mYes (mOp (fIn false) (mVar 5) (mIx (mVar 1) (mVar 3)))) mNil) (k1D fAny)))) (mAdd (mVar 4) (mTup (mCons (mVar 3) mNil))))) (gN 2))) (mRet (mVar 2))))
noncomputable def phi_apart_of : Phi := runFn 6 1 (fun i => [0].contains i) m_apart_of
noncomputable def m_apart : Vm.Env → Res Fl := (mSeq (mAsg (mCall phi_apart_of [] (mCons (mCall phi_want_web [] (mCons (mVar 0) mNil)) mNil)) (gN 1)) (mSeq (mAsg (mA (mCons (mLc [3] (mSrc (mVar 1)) (gN 3) mYes (mA (mCons (mVar 3) mNil) kLen)) mNil) (kBest true)) (gN 2)) (mRet (mTup (mCons (mVar 2) (mCons (mA (mCons (mLc [3] (mSrc (mVar 1)) (gN 3) (mTs fEq (mA (mCons (mVar 3) mNil) kLen) (mVar 2)) (mVar 3)) mNil) (kBest false)) mNil))))))
noncomputable def phi_apart : Phi := runFn 4 1 (fun i => [0].contains i) m_apart
noncomputable def m_at_of : Vm.Env → Res Fl := (mRet (mA (mCons (mLc [3, 4] (mZip (mCons (mIx (mVar 0) (mC (.int 2))) (mCons (mVar 1) mNil))) (gT 2 (gsC (gN 3) (gsC (gN 4) gsN))) (mTs (fIn false) (mVar 2) (mVar 3)) (mVar 4)) mNil) (k1D fSum)))
noncomputable def phi_at_of : Phi := runFn 5 3 (fun i => [0, 1, 2].contains i) m_at_of
noncomputable def m_are_balanced : Vm.Env → Res Fl := (mRet (mA (mCons (mLc [3] (mRng1 (mCons (mIx (mVar 0) (mC (.int 1))) mNil)) (gN 3) mYes (mOp fEq (mCall phi_at_of [] (mCons (mVar 0) (mCons (mVar 1) (mCons (mVar 3) mNil)))) (mVar 2))) mNil) (k1D fAll)))
noncomputable def phi_are_balanced : Phi := runFn 4 3 (fun i => [0, 1, 2].contains i) m_are_balanced
noncomputable def m_are_corners : Vm.Env → Res Fl := (mSeq (mIf (mOr (mNot (mB (mA (mCons (mVar 1) (mCons (mU (.raw (.ty "tuple"))) mNil)) (kIsi "tuple")))) (mTs fEq (mA (mCons (mVar 1) mNil) kLen) (mC (.int 0)))) (mRet (mC (.bool false))) mNext) (mSeq (mIf (mNot (mB (mA (mCons (mLc [4] (mSrc (mVar 1)) (gN 4) mYes (mAndV (mCall phi_is_count [] (mCons (mVar 4) mNil)) (mOp fLt (mVar 4) (mIx (mVar 0) (mC (.int 1)))))) mNil) (k1D fAll)))) (mRet (mC (.bool false))) mNext) (mRet (mA (mCons (mLc [2, 3] (mZip (mCons (mVar 1) (mCons (mSlc (mVar 1) (mOs (mC (.int 1))) mOn) mNil))) (gT 2 (gsC (gN 2) (gsC (gN 3) gsN))) mYes (mOp fLt (mVar 2) (mVar 3))) mNil) (k1D fAll)))))
noncomputable def phi_are_corners : Phi := runFn 5 2 (fun i => [0, 1].contains i) m_are_corners
noncomputable def m_are_names : Vm.Env → Res Fl := (mSeq (mIf (mOr (mNot (mB (mA (mCons (mVar 1) (mCons (mU (.raw (.ty "tuple"))) mNil)) (kIsi "tuple")))) (mOr (mTs fNe (mA (mCons (mVar 1) mNil) kLen) (mVar 0)) (mNot (mB (mA (mCons (mLc [2] (mSrc (mVar 1)) (gN 2) mYes (mCall phi_is_count [] (mCons (mVar 2) mNil))) mNil) (k1D fAll)))))) (mRet (mC (.bool false))) mNext) (mRet (mOp fEq (mA (mCons (mVar 1) mNil) kSorted) (m1 (mVar 0) kL1))))
noncomputable def phi_are_names : Phi := runFn 3 2 (fun i => [0, 1].contains i) m_are_names
noncomputable def m_are_points : Vm.Env → Res Fl := (mSeq (mIf (mOr (mNot (mB (mA (mCons (mVar 0) (mCons (mU (.raw (.ty "tuple"))) mNil)) (kIsi "tuple")))) (mTs fNe (mA (mCons (mVar 0) mNil) kLen) (mVar 1))) (mRet (mC (.bool false))) mNext) (mSeq (mIf (mNot (mB (mA (mCons (mLc [4] (mSrc (mVar 0)) (gN 4) mYes (mAndV (mA (mCons (mVar 4) (mCons (mU (.raw (.ty "tuple"))) mNil)) (kIsi "tuple")) (mOp fEq (mA (mCons (mVar 4) mNil) kLen) (mC (.int 2))))) mNil) (k1D fAll)))) (mRet (mC (.bool false))) mNext) (mRet (mA (mCons (mLc [2, 3] (mSrc (mVar 0)) (gT 2 (gsC (gN 2) (gsC (gN 3) gsN))) mYes (mAndV (mCall phi_is_integer [] (mCons (mVar 2) mNil)) (mCall phi_is_integer [] (mCons (mVar 3) mNil)))) mNil) (k1D fAll)))))
noncomputable def phi_are_points : Phi := runFn 5 2 (fun i => [0, 1].contains i) m_are_points
noncomputable def m_circle_of : Vm.Env → Res Fl := (mSeq (mAsg (mLc [14, 15] (mSrc (mTup (mCons (mVar 0) (mCons (mVar 1) (mCons (mVar 2) mNil))))) (gT 2 (gsC (gN 14) (gsC (gN 15) gsN))) mYes (mTup (mCons (mOp fSub (mVar 14) (mIx (mVar 3) (mC (.int 0)))) (mCons (mOp fSub (mVar 15) (mIx (mVar 3) (mC (.int 1)))) mNil)))) (gN 4)) (mSeq (mAsg (mVar 4) (gT 3 (gsC (gT 2 (gsC (gN 5) (gsC (gN 6) gsN))) (gsC (gT 2 (gsC (gN 7) (gsC (gN 8) gsN))) (gsC (gT 2 (gsC (gN 9) (gsC (gN 10) gsN))) gsN))))) (mSeq (mAsg (mLc [14, 15] (mSrc (mVar 4)) (gT 2 (gsC (gN 14) (gsC (gN 15) gsN))) mYes (mAdd (mMul (mVar 14) (mVar 14)) (mMul (mVar 15) (mVar 15)))) (gT 3 (gsC (gN 11) (gsC (gN 12) (gsC (gN 13) gsN))))) (mRet (mAdd (mOp fSub (mMul (mVar 11) (mOp fSub (mMul (mVar 7) (mVar 10)) (mMul (mVar 8) (mVar 9)))) (mMul (mVar 12) (mOp fSub (mMul (mVar 5) (mVar 10)) (mMul (mVar 6) (mVar 9))))) (mMul (mVar 13) (mOp fSub (mMul (mVar 5) (mVar 8)) (mMul (mVar 6) (mVar 7)))))))))
noncomputable def phi_circle_of : Phi := runFn 16 4 (fun i => [0, 1, 2, 3].contains i) m_circle_of
noncomputable def m_turn_of : Vm.Env → Res Fl := (mRet (mOp fSub (mMul (mOp fSub (mIx (mVar 1) (mC (.int 0))) (mIx (mVar 0) (mC (.int 0)))) (mOp fSub (mIx (mVar 2) (mC (.int 1))) (mIx (mVar 0) (mC (.int 1))))) (mMul (mOp fSub (mIx (mVar 1) (mC (.int 1))) (mIx (mVar 0) (mC (.int 1)))) (mOp fSub (mIx (mVar 2) (mC (.int 0))) (mIx (mVar 0) (mC (.int 0)))))))
noncomputable def phi_turn_of : Phi := runFn 3 3 (fun i => [0, 1, 2].contains i) m_turn_of
noncomputable def m_is_circle_empty : Vm.Env → Res Fl := (mSeq (mAsg (mLc [6] (mSrc (mVar 1)) (gN 6) mYes (mIx (mVar 0) (mVar 6))) (gN 2)) (mSeq (mAsg (mCall phi_turn_of [] (mCons (mIx (mVar 2) (mC (.int 0))) (mCons (mIx (mVar 2) (mC (.int 1))) (mCons (mIx (mVar 2) (mC (.int 2))) mNil)))) (gN 3)) (mSeq (mIf (mTs fEq (mVar 3) (mC (.int 0))) (mRet (mC (.bool false))) mNext) (mSeq (mAsg (mLc [6, 7] (mEnum (mCons (mVar 0) mNil)) (gT 2 (gsC (gN 6) (gsC (gN 7) gsN))) (mTs (fIn true) (mVar 6) (mVar 1)) (mVar 7)) (gN 4)) (mSeq (mAsg (mIf (mTs fGt (mVar 3) (mC (.int 0))) (mC (.int 1)) (mUn fNeg (mC (.int 1)))) (gN 5)) (mRet (mA (mCons (mLc [7] (mSrc (mVar 4)) (gN 7) mYes (mOp fLt (mMul (mVar 5) (mCall phi_circle_of [] (mCons (mIx (mVar 2) (mC (.int 0))) (mCons (mIx (mVar 2) (mC (.int 1))) (mCons (mIx (mVar 2) (mC (.int 2))) (mCons (mVar 7) mNil)))))) (mC (.int 0)))) mNil) (k1D fAll))))))))
noncomputable def phi_is_circle_empty : Phi := runFn 8 2 (fun i => [0, 1].contains i) m_is_circle_empty
noncomputable def m_is_side_bulging : Vm.Env → Res Fl := (mSeq (mAsg (mLc [4, 5] (mEnum (mCons (mVar 0) mNil)) (gT 2 (gsC (gN 4) (gsC (gN 5) gsN))) (mTs (fIn true) (mVar 4) (mVar 1)) (mVar 5)) (gN 2)) (mSeq (mAsg (mLc [5] (mSrc (mVar 2)) (gN 5) mYes (mCall phi_turn_of [] (mCons (mIx (mVar 0) (mIx (mVar 1) (mC (.int 0)))) (mCons (mIx (mVar 0) (mIx (mVar 1) (mC (.int 1)))) (mCons (mVar 5) mNil))))) (gN 3)) (mRet (mOrV (mOp fGt (mA (mCons (mVar 3) mNil) (kBest false)) (mC (.int 0))) (mOp fLt (mA (mCons (mVar 3) mNil) (kBest true)) (mC (.int 0)))))))
noncomputable def phi_is_side_bulging : Phi := runFn 6 2 (fun i => [0, 1].contains i) m_is_side_bulging
noncomputable def m_triangle_ties : Vm.Env → Res Fl := (mSeq (mAsg (mLst mNil) (gN 1)) (mSeq (mFor (mSrc (mVar 0)) (gT 3 (gsC (gN 2) (gsC (gN 3) (gsC (gN 4) gsN)))) (mExpr (mMut mkExtend (pN 1) (mCons (mLst (mCons (mTup (mCons (mVar 2) (mCons (mVar 3) mNil))) (mCons (mTup (mCons (mVar 2) (mCons (mVar 4) mNil))) (mCons (mTup (mCons (mVar 3) (mCons (mVar 4) mNil))) mNil)))) mNil)))) (mRet (mVar 1))))
noncomputable def phi_triangle_ties : Phi := runFn 5 1 (fun i => [0].contains i) m_triangle_ties
noncomputable def m_rim_ties : Vm.Env → Res Fl := (mSeq (mAsg (mCall phi_triangle_ties [] (mCons (mVar 0) mNil)) (gN 1)) (mRet (mA (mCons (mLc [2] (mSrc (mVar 1)) (gN 2) (mTs fEq (mFind true (mVar 1) (mCons (mVar 2) mNil)) (mC (.int 1))) (mVar 2)) mNil) kSorted)))
noncomputable def phi_rim_ties : Phi := runFn 3 1 (fun i => [0].contains i) m_rim_ties
noncomputable def m_are_places : Vm.Env → Res Fl := (mSeq (mIf (mOr (mNot (mB (mCall phi_are_points [] (mCons (mVar 1) (mCons (mIx (mVar 0) (mC (.int 1))) mNil))))) (mNot (mB (mA (mCons (mLc [3] (mSrc (mIx (mVar 0) (mC (.int 2)))) (gN 3) mYes (mCall phi_is_circle_empty [] (mCons (mVar 1) (mCons (mVar 3) mNil)))) mNil) (k1D fAll))))) (mRet (mC (.bool false))) mNext) (mRet (mA (mCons (mLc [2] (mSrc (mCall phi_rim_ties [] (mCons (mIx (mVar 0) (mC (.int 2))) mNil))) (gN 2) mYes (mCall phi_is_side_bulging [] (mCons (mVar 1) (mCons (mVar 2) mNil)))) mNil) (k1D fAll))))
noncomputable def phi_are_places : Phi := runFn 4 2 (fun i => [0, 1].contains i) m_are_places
noncomputable def m_pieces_beside : Vm.Env → Res Fl := (mSeq (mPar [2, 3] (mCons (mLst mNil) (mCons (mA (mCons (mVar 1) mNil) kList) mNil))) (mSeq (mFor (mRng1 (mCons (mA (mCons (mVar 0) mNil) kLen) mNil)) (gN 4) (mIf (mTs (fIn true) (mVar 4) (mVar 3)) (mSeq (mAsgT 2 (mCons (mLst (mCons (mVar 4) mNil)) (mCons (mC (.int 0)) mNil)) (gsC (gN 5) (gsC (gN 6) gsN))) (mSeq (mWhile (mTs fLt (mVar 6) (mA (mCons (mVar 5) mNil) kLen)) (mSeq (mExpr (mMut mkExtend (pN 5) (mCons (mLc [7] (mSrc (mIx (mVar 0) (mIx (mVar 5) (mVar 6)))) (gN 7) (mAnd (mTs (fIn true) (mVar 7) (mVar 5)) (mTs (fIn true) (mVar 7) (mVar 1))) (mVar 7)) mNil))) (mAsg (mAdd (mVar 6) (mC (.int 1))) (gN 6)))) (mSeq (mExpr (mMut mkExtend (pN 3) (mCons (mVar 5) mNil))) (mExpr (mMut mkAppend (pN 2) (mCons (mA (mCons (mVar 5) mNil) kSorted) mNil)))))) mNext)) (mRet (mVar 2))))
noncomputable def phi_pieces_beside : Phi := runFn 8 2 (fun i => [0, 1].contains i) m_pieces_beside
noncomputable def m_lot_of_bar : Vm.Env → Res Fl := (mSeq (mPar [2, 3] (mCons (mLc [5] (mRng1 (mCons (mIx (mVar 0) (mC (.int 1))) mNil)) (gN 5) mYes (mA (mCons (mOp (fIn false) (mVar 5) (mVar 1)) mNil) (kScA fInt))) (mCons (mLst mNil) mNil))) (mSeq (mFor (mSrc (mCall phi_pieces_beside [] (mCons (mCall phi_beside_of [] (mCons (mVar 0) mNil)) (mCons (mVar 1) mNil)))) (gN 4) (mIf (mTs fEq (mA (mCons (mVar 4) mNil) kLen) (mC (.int 1))) (mAsg (mUn fNeg (mC (.int 1))) (gIx (pN 2) (mIx (mVar 4) (mC (.int 0))))) (mExpr (mMut mkAppend (pN 3) (mCons (mTup (mCons (mA (mCons (mLc [5] (mRng1 (mCons (mIx (mVar 0) (mC (.int 1))) mNil)) (gN 5) (mTs fEq (mOp (fIn false) (mVar 5) (mVar 4)) (mOp (fIn false) (mC (.int 0)) (mVar 4))) (mVar 5)) mNil) kTuple) (mCons (mC (.int 1)) mNil))) mNil))))) (mRet (mTup (mCons (mC (.str "lot")) (mCons (mA (mCons (mVar 2) mNil) kTuple) (mCons (mA (mCons (mA (mCons (mVar 3) mNil) kSorted) mNil) kTuple) mNil)))))))
noncomputable def phi_lot_of_bar : Phi := runFn 6 2 (fun i => [0, 1].contains i) m_lot_of_bar
noncomputable def m_is_bar_by : Vm.Env → Res Fl := (mSeq (mAsg (mCall phi_pieces_beside [] (mCons (mVar 1) (mCons (mVar 2) mNil))) (gN 3)) (mSeq (mIf (mOr (mTs fLt (mA (mCons (mVar 3) mNil) kLen) (mC (.int 2))) (mTs fLt (mA (mCons (mVar 3) mNil) kLen) (mA (mCons (mVar 2) mNil) kLen))) (mRet (mC (.bool false))) mNext) (mSeq (mIf (mOr (mTs fGt (mA (mCons (mVar 3) mNil) kLen) (mA (mCons (mVar 2) mNil) kLen)) (mTs fGt (mA (mCons (mLc [6] (mSrc (mVar 3)) (gN 6) mYes (mA (mCons (mVar 6) mNil) kLen)) mNil) (kBest true)) (mC (.int 1)))) (mRet (mC (.bool true))) mNext) (mRet (mA (mCons (mLc [4, 5] (mSrc (mIx (mVar 0) (mC (.int 2)))) (gT 2 (gsC (gN 4) (gsC (gN 5) gsN))) mYes (mAndV (mOp (fIn false) (mVar 4) (mVar 2)) (mOp (fIn false) (mVar 5) (mVar 2)))) mNil) (k1D fAny))))))
noncomputable def phi_is_bar_by : Phi := runFn 7 3 (fun i => [0, 1, 2].contains i) m_is_bar_by
noncomputable def m_is_bar_of : Vm.Env → Res Fl := (mRet (mAndV (mCall phi_are_corners [] (mCons (mVar 0) (mCons (mVar 1) mNil))) (mCall phi_is_bar_by [] (mCons (mVar 0) (mCons (mCall phi_beside_of [] (mCons (mVar 0) mNil)) (mCons (mVar 1) mNil))))))
noncomputable def phi_is_bar_of : Phi := runFn 2 2 (fun i => [0, 1].contains i) m_is_bar_of
noncomputable def m_want_bar : Vm.Env → Res Fl := (mSeq (mIf (mNot (mB (mCall phi_is_bar_of [] (mCons (mVar 0) (mCons (mVar 1) mNil))))) (fun _ => .stuck) mNext) (mRet (mVar 1)))
noncomputable def phi_want_bar : Phi := runFn 2 2 (fun i => [0, 1].contains i) m_want_bar
noncomputable def m_bar_lot : Vm.Env → Res Fl := (mSeq (mExpr (mCall phi_want_web [] (mCons (mVar 0) mNil))) (mRet (mCall phi_lot_of_bar [] (mCons (mVar 0) (mCons (mCall phi_want_bar [] (mCons (mVar 0) (mCons (mVar 1) mNil))) mNil)))))
noncomputable def phi_bar_lot : Phi := runFn 2 2 (fun i => [0, 1].contains i) m_bar_lot
noncomputable def m_bare_point : Vm.Env → Res Fl := (mSeq (mAsg (mA (mCons (mA (mCons (mVar 0) (mCons (mVar 1) mNil)) (kScA fGcd)) (mCons (mA (mCons (mVar 2) (mCons (mVar 3) mNil)) (kScA fGcd)) mNil)) (kScA fGcd)) (gN 4)) (mRet (mTup (mCons (mOp fDiv (mVar 0) (mVar 4)) (mCons (mOp fDiv (mVar 1) (mVar 4)) (mCons (mOp fDiv (mVar 2) (mVar 4)) (mCons (mOp fDiv (mVar 3) (mVar 4)) mNil)))))))
noncomputable def phi_bare_point : Phi := runFn 5 4 (fun i => [0, 1, 2, 3].contains i) m_bare_point
noncomputable def m_bare_ratio : Vm.Env → Res Fl := (mSeq (mAsg (mA (mCons (mVar 0) (mCons (mVar 1) mNil)) (kScA fGcd)) (gN 2)) (mSeq (mIf (mTs fLt (mVar 1) (mC (.int 0))) (mAsg (mUn fNeg (mVar 2)) (gN 2)) mNext) (mRet (mTup (mCons (mOp fDiv (mVar 0) (mVar 2)) (mCons (mOp fDiv (mVar 1) (mVar 2)) mNil))))))
noncomputable def phi_bare_ratio : Phi := runFn 3 2 (fun i => [0, 1].contains i) m_bare_ratio
noncomputable def m_chosen_part : Vm.Env → Res Fl := (mSeq (mAsg (mLst mNil) (gN 2)) (mSeq (mFor (mSrc (mVar 0)) (gT 2 (gsC (gN 3) (gsC (gN 4) gsN))) (mSeq (mAsg (mLc [6, 7] (mEnum (mCons (mVar 1) mNil)) (gT 2 (gsC (gN 6) (gsC (gN 7) gsN))) (mB (mA (mCons (mLc [8] (mSrc (mVar 3)) (gN 8) mYes (mOp (fIn false) (mVar 8) (mVar 7))) mNil) (k1D fAll))) (mVar 6)) (gN 5)) (mSeq (mIf (mTs fEq (mVar 5) (mLst mNil)) (mRet (mC .none)) mNext) (mIf (mOr (mTs fEq (mVar 2) (mLst mNil)) (mAnd (mTs fEq (mA (mCons (mVar 5) mNil) kLen) (mC (.int 1))) (mTs fGt (mIx (mVar 2) (mC (.int 3))) (mC (.int 1))))) (mAsg (mLst (mCons (mVar 3) (mCons (mVar 4) (mCons (mIx (mVar 5) (mC (.int 0))) (mCons (mA (mCons (mVar 5) mNil) kLen) mNil))))) (gN 2)) mNext)))) (mRet (mSlc (mVar 2) mOn (mOs (mC (.int 3)))))))
noncomputable def phi_chosen_part : Phi := runFn 9 2 (fun i => [0, 1].contains i) m_chosen_part
noncomputable def m_compared_of : Vm.Env → Res Fl := (mSeq (mAsg (mOp fSub (mMul (mIx (mVar 0) (mC (.int 0))) (mIx (mVar 1) (mC (.int 1)))) (mMul (mIx (mVar 1) (mC (.int 0))) (mIx (mVar 0) (mC (.int 1))))) (gN 2)) (mRet (mOp fSub (mOp fGt (mVar 2) (mC (.int 0))) (mOp fLt (mVar 2) (mC (.int 0))))))
noncomputable def phi_compared_of : Phi := runFn 3 2 (fun i => [0, 1].contains i) m_compared_of
noncomputable def m_corner_lots : Vm.Env → Res Fl := (mSeq (mAsg (mLst (mCons (mTup mNil) mNil)) (gN 2)) (mSeq (mFor (mRng1 (mCons (mVar 1) mNil)) (gN 3) (mSeq (mAsg (mLst mNil) (gN 4)) (mSeq (mFor (mSrc (mVar 2)) (gN 5) (mExpr (mMut mkExtend (pN 4) (mCons (mLc [6] (mRng2 (mCons (mIf (mTs fNe (mVar 5) (mTup mNil)) (mAdd (mIx (mVar 5) (mUn fNeg (mC (.int 1)))) (mC (.int 1))) (mC (.int 0))) (mCons (mVar 0) mNil))) (gN 6) mYes (mAdd (mVar 5) (mTup (mCons (mVar 6) mNil)))) mNil)))) (mAsg (mVar 4) (gN 2))))) (mRet (mVar 2))))
noncomputable def phi_corner_lots : Phi := runFn 7 2 (fun i => [0, 1].contains i) m_corner_lots
noncomputable def m_want_many : Vm.Env → Res Fl := (mSeq (mIf (mNot (mB (mCall phi_is_from_to [] (mCons (mVar 0) (mCons (mVar 2) (mCons (mVar 1) mNil)))))) (fun _ => .stuck) mNext) (mRet (mVar 0)))
noncomputable def phi_want_many : Phi := runFn 3 3 (fun i => [0, 1, 2].contains i) m_want_many
noncomputable def m_is_ratio : Vm.Env → Res Fl := (mSeq (mIf (mOr (mNot (mB (mA (mCons (mVar 0) (mCons (mU (.raw (.ty "tuple"))) mNil)) (kIsi "tuple")))) (mOr (mTs fNe (mA (mCons (mVar 0) mNil) kLen) (mC (.int 2))) (mOr (mNot (mB (mCall phi_is_integer [] (mCons (mIx (mVar 0) (mC (.int 0))) mNil)))) (mNot (mB (mCall phi_is_integer [] (mCons (mIx (mVar 0) (mC (.int 1))) mNil))))))) (mRet (mC (.bool false))) mNext) (mRet (mAndV (mOp fGe (mIx (mVar 0) (mC (.int 1))) (mC (.int 1))) (mOp fEq (mA (mCons (mIx (mVar 0) (mC (.int 0))) (mCons (mIx (mVar 0) (mC (.int 1))) mNil)) (kScA fGcd)) (mC (.int 1))))))
noncomputable def phi_is_ratio : Phi := runFn 1 1 (fun i => [0].contains i) m_is_ratio
noncomputable def m_want_ratio : Vm.Env → Res Fl := (mSeq (mIf (mNot (mB (mCall phi_is_ratio [] (mCons (mVar 0) mNil)))) (fun _ => .stuck) mNext) (mRet (mVar 0)))
noncomputable def phi_want_ratio : Phi := runFn 1 1 (fun i => [0].contains i) m_want_ratio
noncomputable def m_want_share : Vm.Env → Res Fl := (mSeq (mExpr (mCall phi_want_ratio [] (mCons (mVar 0) mNil))) (mSeq (mIf (mOr (mTs fLt (mIx (mVar 0) (mC (.int 0))) (mC (.int 0))) (mTs fGt (mIx (mVar 0) (mC (.int 0))) (mIx (mVar 0) (mC (.int 1))))) (fun _ => .stuck) mNext) (mRet (mVar 0))))
noncomputable def phi_want_share : Phi := runFn 1 1 (fun i => [0].contains i) m_want_share
noncomputable def m_floor_told : Vm.Env → Res Fl := (mSeq (mPar [2, 3] (mCons (mOp fShr (mOp fSub (mVar 0) (mC (.int 4096))) (mVar 1)) (mCons (mOp fShr (mAdd (mVar 0) (mC (.int 4096))) (mVar 1)) mNil))) (mRet (mIf (mTs fEq (mVar 2) (mVar 3)) (mVar 2) (mC .none))))
noncomputable def phi_floor_told : Phi := runFn 4 2 (fun i => [0, 1].contains i) m_floor_told
noncomputable def m_turned_series : Vm.Env → Res Fl := (mSeq (mAsgT 4 (mCons (mOp fShr (mMul (mVar 0) (mVar 0)) (mVar 1)) (mCons (mVar 0) (mCons (mC (.int 0)) (mCons (mC (.int 1)) mNil)))) (gsC (gN 2) (gsC (gN 3) (gsC (gN 4) (gsC (gN 5) gsN))))) (mSeq (mWhile (mTs fNe (mVar 3) (mC (.int 0))) (mSeq (mAsg (mAdd (mVar 4) (mOp fDiv (mVar 3) (mVar 5))) (gN 4)) (mSeq (mPar [3, 5] (mCons (mOp fSub (mC (.int 0)) (mOp fShr (mMul (mVar 3) (mVar 2)) (mVar 1))) (mCons (mAdd (mVar 5) (mC (.int 2))) mNil))) (mIf (toT (mCh fLt fLt (mUn fNeg (mC (.int 2))) (mVar 3) (mC (.int 1)))) (mAsg (mC (.int 0)) (gN 3)) mNext)))) (mRet (mVar 4))))
noncomputable def phi_turned_series : Phi := runFn 6 2 (fun i => [0, 1].contains i) m_turned_series
noncomputable def m_half_turn_by : Vm.Env → Res Fl := (mSeq (mAsg (mAdd (mVar 0) (mC (.int 24))) (gN 1)) (mSeq (mAsg (mOp fShl (mC (.int 1)) (mVar 1)) (gN 2)) (mRet (mOp fShr (mOp fSub (mMul (mC (.int 16)) (mCall phi_turned_series [] (mCons (mOp fDiv (mVar 2) (mC (.int 5))) (mCons (mVar 1) mNil)))) (mMul (mC (.int 4)) (mCall phi_turned_series [] (mCons (mOp fDiv (mVar 2) (mC (.int 239))) (mCons (mVar 1) mNil))))) (mC (.int 24))))))
noncomputable def phi_half_turn_by : Phi := runFn 3 1 (fun i => [0].contains i) m_half_turn_by
noncomputable def m_waves_with (self : Phi) : Vm.Env → Res Fl := (mSeq (mAsg (mVar 0) (gT 2 (gsC (gN 3) (gsC (gN 4) gsN)))) (mSeq (mAsg (mAdd (mVar 2) (mC (.int 24))) (gN 5)) (mSeq (mIf (mTs fGt (mMul (mC (.int 2)) (mVar 3)) (mVar 4)) (mSeq (mAsg (mCall self [] (mCons (mTup (mCons (mOp fSub (mVar 4) (mVar 3)) (mCons (mVar 4) mNil))) (mCons (mVar 1) (mCons (mVar 2) mNil)))) (gT 2 (gsC (gN 6) (gsC (gN 7) gsN)))) (mRet (mTup (mCons (mVar 6) (mCons (mOp fSub (mC (.int 0)) (mVar 7)) mNil))))) mNext) (mSeq (mAsg (mOp fDiv (mMul (mVar 1) (mVar 3)) (mMul (mC (.int 16)) (mVar 4))) (gN 8)) (mSeq (mAsgT 4 (mCons (mOp fShr (mMul (mVar 8) (mVar 8)) (mVar 5)) (mCons (mC (.int 0)) (mCons (mC (.int 0)) (mCons (mC (.int 0)) mNil)))) (gsC (gN 9) (gsC (gN 6) (gsC (gN 7) (gsC (gN 10) gsN))))) (mSeq (mPar [11, 12] (mCons (mVar 8) (mCons (mOp fShl (mC (.int 1)) (mVar 5)) mNil))) (mSeq (mWhile (mTs fNe (mVar 12) (mC (.int 0))) (mSeq (mPar [6, 7] (mCons (mAdd (mVar 6) (mVar 11)) (mCons (mAdd (mVar 7) (mVar 12)) mNil))) (mSeq (mAsg (mOp fSub (mC (.int 0)) (mOp fDiv (mOp fShr (mMul (mVar 12) (mVar 9)) (mVar 5)) (mMul (mAdd (mVar 10) (mC (.int 1))) (mAdd (mVar 10) (mC (.int 2)))))) (gN 12)) (mSeq (mAsg (mOp fSub (mC (.int 0)) (mOp fDiv (mOp fShr (mMul (mVar 11) (mVar 9)) (mVar 5)) (mMul (mAdd (mVar 10) (mC (.int 2))) (mAdd (mVar 10) (mC (.int 3)))))) (gN 11)) (mSeq (mAsg (mAdd (mVar 10) (mC (.int 2))) (gN 10)) (mIf (toT (mCh fLt fLt (mUn fNeg (mC (.int 2))) (mVar 12) (mC (.int 1)))) (mAsg (mC (.int 0)) (gN 12)) mNext)))))) (mSeq (mFor (mRng1 (mCons (mC (.int 4)) mNil)) (gN 13) (mPar [6, 7] (mCons (mOp fShr (mMul (mMul (mC (.int 2)) (mVar 6)) (mVar 7)) (mVar 5)) (mCons (mOp fShr (mOp fSub (mMul (mVar 7) (mVar 7)) (mMul (mVar 6) (mVar 6))) (mVar 5)) mNil)))) (mRet (mTup (mCons (mOp fShr (mVar 6) (mC (.int 24))) (mCons (mOp fShr (mVar 7) (mC (.int 24))) mNil))))))))))))
noncomputable def phi_waves_with : Nat → Phi
  | 0 => fun _ => .stuck
  | n + 1 => runFn 14 3 (fun i => [0, 1, 2].contains i) (m_waves_with (phi_waves_with n))
noncomputable def m_sine_cosine_by : Vm.Env → Res Fl := (mRet (mCall (phi_waves_with 10) [] (mCons (mVar 0) (mCons (mCall phi_half_turn_by [] (mCons (mAdd (mVar 1) (mC (.int 24))) mNil)) (mCons (mVar 1) mNil)))))
noncomputable def phi_sine_cosine_by : Phi := runFn 2 2 (fun i => [0, 1].contains i) m_sine_cosine_by
noncomputable def m_wave_found : Vm.Env → Res Fl := (mSeq (mPar [3, 4] (mCons (mC .none) (mCons (mC (.int 32)) mNil))) (mSeq (mWhile (toT (mUn (fNo id) (mVar 3))) (mSeq (mAsg (mCall phi_sine_cosine_by [] (mCons (mVar 0) (mCons (mAdd (mVar 1) (mVar 4)) mNil))) (gT 2 (gsC (gN 5) (gsC (gN 6) gsN)))) (mPar [3, 4] (mCons (mCall phi_floor_told [] (mCons (mIf (mB (mVar 2)) (mVar 5) (mVar 6)) (mCons (mVar 4) mNil))) (mCons (mMul (mC (.int 2)) (mVar 4)) mNil))))) (mRet (mVar 3))))
noncomputable def phi_wave_found : Phi := runFn 7 3 (fun i => [0, 1, 2].contains i) m_wave_found
noncomputable def m_cosine_floor : Vm.Env → Res Fl := (mSeq (mExpr (mCall phi_want_share [] (mCons (mVar 0) mNil))) (mSeq (mExpr (mCall phi_want_many [.d (.int 0)] (mCons (mVar 1) (mCons (mC (.int 200)) mNil)))) (mSeq (mIf (mTs (fIn false) (mVar 0) (mTup (mCons (mTup (mCons (mC (.int 0)) (mCons (mC (.int 1)) mNil))) (mCons (mTup (mCons (mC (.int 1)) (mCons (mC (.int 1)) mNil))) (mCons (mTup (mCons (mC (.int 1)) (mCons (mC (.int 2)) mNil))) mNil))))) (mRet (mOp fShl (mOp fSub (mA (mCons (mOp fEq (mVar 0) (mTup (mCons (mC (.int 0)) (mCons (mC (.int 1)) mNil)))) mNil) (kScA fInt)) (mA (mCons (mOp fEq (mVar 0) (mTup (mCons (mC (.int 1)) (mCons (mC (.int 1)) mNil)))) mNil) (kScA fInt))) (mVar 1))) mNext) (mSeq (mIf (mTs (fIn false) (mVar 0) (mTup (mCons (mTup (mCons (mC (.int 1)) (mCons (mC (.int 3)) mNil))) (mCons (mTup (mCons (mC (.int 2)) (mCons (mC (.int 3)) mNil))) mNil)))) (mRet (mOp fDiv (mOp fShl (mOp fSub (mC (.int 3)) (mMul (mC (.int 2)) (mIx (mVar 0) (mC (.int 0))))) (mVar 1)) (mC (.int 2)))) mNext) (mRet (mCall phi_wave_found [] (mCons (mVar 0) (mCons (mVar 1) (mCons (mC (.bool false)) mNil)))))))))
noncomputable def phi_cosine_floor : Phi := runFn 2 2 (fun i => [0, 1].contains i) m_cosine_floor
noncomputable def m_tie_of : Vm.Env → Res Fl := (mRet (mTup (mCons (mA (mCons (mVar 0) (mCons (mVar 1) mNil)) (kScA fMin2)) (mCons (mA (mCons (mVar 0) (mCons (mVar 1) mNil)) (kScA fMax2)) mNil))))
noncomputable def phi_tie_of : Phi := runFn 2 2 (fun i => [0, 1].contains i) m_tie_of
noncomputable def m_web_of : Vm.Env → Res Fl := (mRet (mTup (mCons (mC (.str "web")) (mCons (mVar 0) (mCons (mA (mCons (mA (mCons (mVar 1) mNil) kSorted) mNil) kTuple) mNil)))))
noncomputable def phi_web_of : Phi := runFn 2 2 (fun i => [0, 1].contains i) m_web_of
noncomputable def m_cut_corner : Vm.Env → Res Fl := (mSeq (mAsg (mAdd (mLst (mCons (mVar 1) mNil)) (m2 (mIx (mVar 0) (mC (.int 1))) (mOp fSub (mAdd (mIx (mVar 0) (mC (.int 1))) (mA (mCons (mVar 2) mNil) kLen)) (mC (.int 1))) kL2)) (gN 3)) (mSeq (mAsg (mLc [5] (mSrc (mIx (mVar 0) (mC (.int 2)))) (gN 5) (mTs (fIn true) (mVar 1) (mVar 5)) (mVar 5)) (gN 4)) (mSeq (mAsg (mAdd (mVar 4) (mLc [6, 7] (mZip (mCons (mVar 3) (mCons (mVar 2) mNil))) (gT 2 (gsC (gN 6) (gsC (gN 7) gsN))) mYes (mCall phi_tie_of [] (mCons (mVar 6) (mCons (mVar 7) mNil))))) (gN 4)) (mRet (mCall phi_web_of [] (mCons (mOp fSub (mAdd (mIx (mVar 0) (mC (.int 1))) (mA (mCons (mVar 2) mNil) kLen)) (mC (.int 1))) (mCons (mAdd (mVar 4) (mLc [6, 7] (mZip (mCons (mVar 3) (mCons (mAdd (mSlc (mVar 3) (mOs (mC (.int 1))) mOn) (mSlc (mVar 3) mOn (mOs (mC (.int 1))))) mNil))) (gT 2 (gsC (gN 6) (gsC (gN 7) gsN))) mYes (mCall phi_tie_of [] (mCons (mVar 6) (mCons (mVar 7) mNil))))) mNil)))))))
noncomputable def phi_cut_corner : Phi := runFn 8 3 (fun i => [0, 1, 2].contains i) m_cut_corner
noncomputable def m_numbers_table : Vm.Env → Res Fl := (mSeq (mAsg (mLc [5] (mRng1 (mCons (mIx (mVar 0) (mC (.int 1))) mNil)) (gN 5) mYes (mMul (mLst (mCons (mC (.int 0)) mNil)) (mIx (mVar 0) (mC (.int 1))))) (gN 2)) (mSeq (mFor (mZip (mCons (mIx (mVar 0) (mC (.int 2))) (mCons (mVar 1) mNil))) (gT 2 (gsC (gN 3) (gsC (gN 4) gsN))) (mSeq (mAsg (mVar 4) (gIx (pI (pN 2) (mIx (mVar 3) (mC (.int 0)))) (mIx (mVar 3) (mC (.int 1))))) (mAsg (mVar 4) (gIx (pI (pN 2) (mIx (mVar 3) (mC (.int 1)))) (mIx (mVar 3) (mC (.int 0))))))) (mRet (mVar 2))))
noncomputable def phi_numbers_table : Phi := runFn 6 2 (fun i => [0, 1].contains i) m_numbers_table
noncomputable def m_lot_sums : Vm.Env → Res Fl := (mSeq (mAsg (mCall phi_numbers_table [] (mCons (mVar 0) (mCons (mVar 1) mNil))) (gN 2)) (mSeq (mAsg (mLst (mCons (mA (mCons (mIx (mVar 2) (mC (.int 0))) mNil) (k1D fSum)) mNil)) (gN 3)) (mSeq (mFor (mRng2 (mCons (mC (.int 1)) (mCons (mIx (mVar 0) (mC (.int 1))) mNil))) (gN 4) (mSeq (mAsg (mLst (mCons (mIx (mIx (mVar 2) (mVar 4)) (mC (.int 0))) mNil)) (gN 5)) (mSeq (mFor (mRng2 (mCons (mC (.int 1)) (mCons (mVar 4) mNil))) (gN 6) (mAsg (mAdd (mVar 5) (mLc [8] (mSrc (mVar 5)) (gN 8) mYes (mAdd (mVar 8) (mIx (mIx (mVar 2) (mVar 4)) (mVar 6))))) (gN 5))) (mSeq (mAsg (mA (mCons (mIx (mVar 2) (mVar 4)) mNil) (k1D fSum)) (gN 7)) (mAsg (mAdd (mVar 3) (mLc [8, 9] (mZip (mCons (mVar 3) (mCons (mVar 5) mNil))) (gT 2 (gsC (gN 8) (gsC (gN 9) gsN))) mYes (mOp fSub (mAdd (mVar 8) (mVar 7)) (mMul (mC (.int 2)) (mVar 9))))) (gN 3)))))) (mRet (mVar 3)))))
noncomputable def phi_lot_sums : Phi := runFn 10 2 (fun i => [0, 1].contains i) m_lot_sums
noncomputable def m_cut_least : Vm.Env → Res Fl := (mSeq (mAsg (mLc [3, 4] (mZip (mCons (mCall phi_lot_sums [] (mCons (mVar 0) (mCons (mVar 1) mNil))) (mCons (mCall phi_first_lots [] (mCons (mIx (mVar 0) (mC (.int 1))) mNil)) mNil))) (gT 2 (gsC (gN 3) (gsC (gN 4) gsN))) (mB (mCall phi_is_wide [] (mCons (mVar 4) (mCons (mIx (mVar 0) (mC (.int 1))) mNil)))) (mTup (mCons (mVar 3) (mCons (mVar 4) mNil)))) (gN 2)) (mRet (mA (mCons (mVar 2) mNil) (kBest false))))
noncomputable def phi_cut_least : Phi := runFn 5 2 (fun i => [0, 1].contains i) m_cut_least
noncomputable def m_want_corner : Vm.Env → Res Fl := (mSeq (mIf (mOr (mNot (mB (mCall phi_is_count [] (mCons (mVar 1) mNil)))) (mTs fGe (mVar 1) (mIx (mVar 0) (mC (.int 1))))) (fun _ => .stuck) mNext) (mRet (mVar 1)))
noncomputable def phi_want_corner : Phi := runFn 2 2 (fun i => [0, 1].contains i) m_want_corner
noncomputable def m_neighbours : Vm.Env → Res Fl := (mSeq (mExpr (mCall phi_want_web [] (mCons (mVar 0) mNil))) (mRet (mIx (mCall phi_beside_of [] (mCons (mVar 0) mNil)) (mCall phi_want_corner [] (mCons (mVar 0) (mCons (mVar 1) mNil))))))
noncomputable def phi_neighbours : Phi := runFn 2 2 (fun i => [0, 1].contains i) m_neighbours
noncomputable def m_degree : Vm.Env → Res Fl := (mRet (mA (mCons (mCall phi_neighbours [] (mCons (mVar 0) (mCons (mVar 1) mNil))) mNil) kLen))
noncomputable def phi_degree : Phi := runFn 2 2 (fun i => [0, 1].contains i) m_degree
noncomputable def m_direction_of : Vm.Env → Res Fl := (mRet (mTup (mCons (mOp fSub (mMul (mVar 1) (mVar 1)) (mMul (mVar 0) (mVar 0))) (mCons (mMul (mMul (mC (.int 2)) (mVar 0)) (mVar 1)) (mCons (mAdd (mMul (mVar 1) (mVar 1)) (mMul (mVar 0) (mVar 0))) mNil)))))
noncomputable def phi_direction_of : Phi := runFn 2 2 (fun i => [0, 1].contains i) m_direction_of
noncomputable def m_round_ties : Vm.Env → Res Fl := (mRet (mAdd (mLc [2] (mRng1 (mCons (mOp fSub (mVar 1) (mC (.int 1))) mNil)) (gN 2) mYes (mTup (mCons (mAdd (mVar 0) (mVar 2)) (mCons (mAdd (mAdd (mVar 0) (mVar 2)) (mC (.int 1))) mNil)))) (mLst (mCons (mTup (mCons (mVar 0) (mCons (mOp fSub (mAdd (mVar 0) (mVar 1)) (mC (.int 1))) mNil))) mNil))))
noncomputable def phi_round_ties : Phi := runFn 3 2 (fun i => [0, 1].contains i) m_round_ties
noncomputable def m_drum : Vm.Env → Res Fl := (mSeq (mExpr (mCall phi_want_many [] (mCons (mVar 0) (mCons (mC (.int 6)) (mCons (mC (.int 3)) mNil))))) (mSeq (mAsg (mAdd (mAdd (mCall phi_round_ties [] (mCons (mC (.int 0)) (mCons (mVar 0) mNil))) (mCall phi_round_ties [] (mCons (mVar 0) (mCons (mVar 0) mNil)))) (mLc [2] (mRng1 (mCons (mVar 0) mNil)) (gN 2) mYes (mTup (mCons (mVar 2) (mCons (mAdd (mVar 0) (mVar 2)) mNil))))) (gN 1)) (mRet (mCall phi_web_of [] (mCons (mMul (mC (.int 2)) (mVar 0)) (mCons (mAdd (mVar 1) (mLc [2] (mRng1 (mCons (mVar 0) mNil)) (gN 2) mYes (mTup (mCons (mVar 2) (mCons (mAdd (mVar 0) (mOp fMod (mAdd (mVar 2) (mC (.int 1))) (mVar 0))) mNil))))) mNil))))))
noncomputable def phi_drum : Phi := runFn 3 1 (fun i => [0].contains i) m_drum
noncomputable def m_equator_points : Vm.Env → Res Fl := (mRet (mLc [1, 2, 3] (mSrc (mVar 0)) (gT 3 (gsC (gN 1) (gsC (gN 2) (gsC (gN 3) gsN)))) mYes (mCall phi_bare_point [] (mCons (mVar 1) (mCons (mVar 2) (mCons (mC (.int 0)) (mCons (mVar 3) mNil)))))))
noncomputable def phi_equator_points : Phi := runFn 4 1 (fun i => [0].contains i) m_equator_points
noncomputable def m_far_corner : Vm.Env → Res Fl := (mSeq (mAsg (mLc [2] (mSrc (mCall phi_beside_of [] (mCons (mVar 0) mNil))) (gN 2) mYes (mA (mCons (mVar 2) mNil) kLen)) (gN 1)) (mRet (mFind false (mVar 1) (mCons (mA (mCons (mVar 1) mNil) (kBest true)) mNil))))
noncomputable def phi_far_corner : Phi := runFn 3 1 (fun i => [0].contains i) m_far_corner
noncomputable def m_longer_tuples : Vm.Env → Res Fl := (mSeq (mAsg (mLst mNil) (gN 2)) (mSeq (mFor (mSrc (mVar 0)) (gN 3) (mExpr (mMut mkExtend (pN 2) (mCons (mLc [4] (mRng2 (mCons (mAdd (mIx (mVar 3) (mUn fNeg (mC (.int 1)))) (mC (.int 1))) (mCons (mVar 1) mNil))) (gN 4) mYes (mAdd (mVar 3) (mTup (mCons (mVar 4) mNil)))) mNil)))) (mRet (mVar 2))))
noncomputable def phi_longer_tuples : Phi := runFn 5 2 (fun i => [0, 1].contains i) m_longer_tuples
noncomputable def m_first_bar : Vm.Env → Res Fl := (mSeq (mPar [1, 2] (mCons (mCall phi_beside_of [] (mCons (mVar 0) mNil)) (mCons (mLc [5] (mRng1 (mCons (mIx (mVar 0) (mC (.int 1))) mNil)) (gN 5) mYes (mTup (mCons (mVar 5) mNil))) mNil))) (mSeq (mFor (mRng1 (mCons (mOp fDiv (mIx (mVar 0) (mC (.int 1))) (mC (.int 2))) mNil)) (gN 3) (mSeq (mFor (mSrc (mVar 2)) (gN 4) (mIf (mB (mCall phi_is_bar_by [] (mCons (mVar 0) (mCons (mVar 1) (mCons (mVar 4) mNil))))) (mRet (mVar 4)) mNext)) (mAsg (mCall phi_longer_tuples [] (mCons (mVar 2) (mCons (mIx (mVar 0) (mC (.int 1))) mNil))) (gN 2)))) (mRet (mC .none))))
noncomputable def phi_first_bar : Phi := runFn 6 1 (fun i => [0].contains i) m_first_bar
noncomputable def m_pairs_of : Vm.Env → Res Fl := (mSeq (mAsg (mLst mNil) (gN 2)) (mSeq (mFor (mRng1 (mCons (mC (.int 4)) mNil)) (gN 3) (mFor (mRng2 (mCons (mAdd (mVar 3) (mC (.int 1))) (mCons (mC (.int 4)) mNil))) (gN 4) (mExpr (mMut mkAppend (pN 2) (mCons (mOp fSub (mMul (mIx (mVar 0) (mVar 3)) (mIx (mVar 1) (mVar 4))) (mMul (mIx (mVar 0) (mVar 4)) (mIx (mVar 1) (mVar 3)))) mNil))))) (mRet (mVar 2))))
noncomputable def phi_pairs_of : Phi := runFn 5 2 (fun i => [0, 1].contains i) m_pairs_of
noncomputable def m_side_of : Vm.Env → Res Fl := (mSeq (mPar [4, 5] (mCons (mCall phi_pairs_of [] (mCons (mVar 0) (mCons (mVar 1) mNil))) (mCons (mCall phi_pairs_of [] (mCons (mVar 2) (mCons (mVar 3) mNil))) mNil))) (mSeq (mAsg (mAdd (mOp fSub (mMul (mIx (mVar 4) (mC (.int 0))) (mIx (mVar 5) (mC (.int 5)))) (mMul (mIx (mVar 4) (mC (.int 1))) (mIx (mVar 5) (mC (.int 4))))) (mMul (mIx (mVar 4) (mC (.int 2))) (mIx (mVar 5) (mC (.int 3))))) (gN 6)) (mSeq (mAsg (mAdd (mOp fSub (mAdd (mVar 6) (mMul (mIx (mVar 4) (mC (.int 3))) (mIx (mVar 5) (mC (.int 2))))) (mMul (mIx (mVar 4) (mC (.int 4))) (mIx (mVar 5) (mC (.int 1))))) (mMul (mIx (mVar 4) (mC (.int 5))) (mIx (mVar 5) (mC (.int 0))))) (gN 6)) (mRet (mOp fSub (mA (mCons (mOp fGt (mVar 6) (mC (.int 0))) mNil) (kScA fInt)) (mA (mCons (mOp fLt (mVar 6) (mC (.int 0))) mNil) (kScA fInt)))))))
noncomputable def phi_side_of : Phi := runFn 7 4 (fun i => [0, 1, 2, 3].contains i) m_side_of
noncomputable def m_has_face : Vm.Env → Res Fl := (mSeq (mAsg (mLc [6] (mSrc (mSlc (mVar 0) mOn (mOs (mC (.int 3))))) (gN 6) mYes (mIx (mVar 1) (mVar 6))) (gT 3 (gsC (gN 2) (gsC (gN 3) (gsC (gN 4) gsN))))) (mSeq (mAsg (mLst mNil) (gN 5)) (mSeq (mFor (mEnum (mCons (mVar 1) mNil)) (gT 2 (gsC (gN 6) (gsC (gN 7) gsN))) (mIf (mTs (fIn true) (mVar 6) (mVar 0)) (mExpr (mMut mkAppend (pN 5) (mCons (mCall phi_side_of [] (mCons (mVar 2) (mCons (mVar 3) (mCons (mVar 4) (mCons (mVar 7) mNil))))) mNil))) (mIf (mAnd (mTs (fIn true) (mVar 6) (mSlc (mVar 0) mOn (mOs (mC (.int 3))))) (mTs fNe (mCall phi_side_of [] (mCons (mVar 2) (mCons (mVar 3) (mCons (mVar 4) (mCons (mVar 7) mNil))))) (mC (.int 0)))) (mRet (mC (.bool false))) mNext))) (mRet (mAndV (mOp fNe (mVar 5) (mLst mNil)) (mAndV (mOp fNe (mIx (mVar 5) (mC (.int 0))) (mC (.int 0))) (mA (mCons (mLc [8] (mSrc (mVar 5)) (gN 8) mYes (mOp fEq (mVar 8) (mIx (mVar 5) (mC (.int 0))))) mNil) (k1D fAll))))))))
noncomputable def phi_has_face : Phi := runFn 9 2 (fun i => [0, 1].contains i) m_has_face
noncomputable def m_is_point : Vm.Env → Res Fl := (mSeq (mIf (mOr (mNot (mB (mA (mCons (mVar 0) (mCons (mU (.raw (.ty "tuple"))) mNil)) (kIsi "tuple")))) (mOr (mTs fNe (mA (mCons (mVar 0) mNil) kLen) (mC (.int 4))) (mNot (mB (mA (mCons (mLc [5] (mSrc (mVar 0)) (gN 5) mYes (mCall phi_is_integer [] (mCons (mVar 5) mNil))) mNil) (k1D fAll)))))) (mRet (mC (.bool false))) mNext) (mSeq (mAsg (mVar 0) (gT 4 (gsC (gN 1) (gsC (gN 2) (gsC (gN 3) (gsC (gN 4) gsN)))))) (mRet (mAndV (mOp fGe (mVar 4) (mC (.int 1))) (mAndV (mOp fEq (mAdd (mAdd (mMul (mVar 1) (mVar 1)) (mMul (mVar 2) (mVar 2))) (mMul (mVar 3) (mVar 3))) (mMul (mVar 4) (mVar 4))) (mOp fEq (mA (mCons (mA (mCons (mVar 1) (mCons (mVar 2) mNil)) (kScA fGcd)) (mCons (mA (mCons (mVar 3) (mCons (mVar 4) mNil)) (kScA fGcd)) mNil)) (kScA fGcd)) (mC (.int 1))))))))
noncomputable def phi_is_point : Phi := runFn 6 1 (fun i => [0].contains i) m_is_point
noncomputable def m_fit_corners : Vm.Env → Res Fl := (mSeq (mIf (mOr (mNot (mB (mA (mCons (mVar 2) (mCons (mU (.raw (.ty "tuple"))) mNil)) (kIsi "tuple")))) (mOr (mTs fNe (mA (mCons (mVar 2) mNil) kLen) (mIx (mVar 0) (mC (.int 1)))) (mNot (mB (mA (mCons (mLc [7] (mSrc (mVar 2)) (gN 7) mYes (mCall phi_is_point [] (mCons (mVar 7) mNil))) mNil) (k1D fAll)))))) (mRet (mC (.bool false))) mNext) (mSeq (mAsg (mA (mCons (mVar 2) mNil) kSorted) (gN 3)) (mSeq (mIf (mTs fNe (mLc [4, 5] (mZip (mCons (mVar 3) (mCons (mSlc (mVar 3) (mOs (mC (.int 1))) mOn) mNil))) (gT 2 (gsC (gN 4) (gsC (gN 5) gsN))) (mTs fEq (mVar 4) (mVar 5)) (mC (.int 1))) (mLst mNil)) (mRet (mC (.bool false))) mNext) (mRet (mA (mCons (mLc [6] (mSrc (mVar 1)) (gN 6) mYes (mCall phi_has_face [] (mCons (mVar 6) (mCons (mVar 2) mNil)))) mNil) (k1D fAll))))))
noncomputable def phi_fit_corners : Phi := runFn 8 3 (fun i => [0, 1, 2].contains i) m_fit_corners
noncomputable def m_half_floor : Vm.Env → Res Fl := (mSeq (mPar [1, 2] (mCons (mC .none) (mCons (mC (.int 32)) mNil))) (mSeq (mWhile (toT (mUn (fNo id) (mVar 1))) (mPar [1, 2] (mCons (mCall phi_floor_told [] (mCons (mCall phi_half_turn_by [] (mCons (mAdd (mVar 0) (mVar 2)) mNil)) (mCons (mVar 2) mNil))) (mCons (mMul (mC (.int 2)) (mVar 2)) mNil)))) (mRet (mVar 1))))
noncomputable def phi_half_floor : Phi := runFn 3 1 (fun i => [0].contains i) m_half_floor
noncomputable def m_half_tangents : Vm.Env → Res Fl := (mRet (mLc [1] (mRng1 (mCons (mVar 0) mNil)) (gN 1) mYes (mMul (mC (.int 2)) (mAdd (mOp fSub (mMul (mC (.int 2)) (mVar 1)) (mVar 0)) (mC (.int 1))))))
noncomputable def phi_half_tangents : Phi := runFn 2 1 (fun i => [0].contains i) m_half_tangents
noncomputable def m_half_turn : Vm.Env → Res Fl := (mRet (mCall phi_half_floor [] (mCons (mCall phi_want_many [.d (.int 0)] (mCons (mVar 0) (mCons (mC (.int 200)) mNil))) mNil)))
noncomputable def phi_half_turn : Phi := runFn 1 1 (fun i => [0].contains i) m_half_turn
noncomputable def m_ties_in_hand : Vm.Env → Res Fl := (mSeq (mAsg (mVar 0) (gT 3 (gsC (gN 1) (gsC (gN 2) (gsC (gN 3) gsN))))) (mRet (mLst (mCons (mTup (mCons (mVar 1) (mCons (mVar 2) mNil))) (mCons (mTup (mCons (mVar 2) (mCons (mVar 3) mNil))) (mCons (mTup (mCons (mVar 3) (mCons (mVar 1) mNil))) mNil))))))
noncomputable def phi_ties_in_hand : Phi := runFn 4 1 (fun i => [0].contains i) m_ties_in_hand
noncomputable def m_hand_of : Vm.Env → Res Fl := (mSeq (mAsg (mVar 0) (gT 3 (gsC (gN 2) (gsC (gN 3) (gsC (gN 4) gsN))))) (mSeq (mFor (mSrc (mTup (mCons (mTup (mCons (mVar 2) (mCons (mVar 3) (mCons (mVar 4) mNil)))) (mCons (mTup (mCons (mVar 2) (mCons (mVar 4) (mCons (mVar 3) mNil)))) mNil)))) (gN 5) (mIf (mTs fNe (mLc [6, 7] (mSrc (mCall phi_ties_in_hand [] (mCons (mVar 5) mNil))) (gT 2 (gsC (gN 6) (gsC (gN 7) gsN))) (mTs (fIn false) (mTup (mCons (mVar 7) (mCons (mVar 6) mNil))) (mVar 1)) (mC (.int 1))) (mLst mNil)) (mRet (mVar 5)) mNext)) (mRet (mC .none))))
noncomputable def phi_hand_of : Phi := runFn 8 2 (fun i => [0, 1].contains i) m_hand_of
noncomputable def m_has_corners_form : Vm.Env → Res Fl := (mRet (mAndV (mA (mCons (mVar 0) (mCons (mU (.raw (.ty "tuple"))) mNil)) (kIsi "tuple")) (mAndV (mCh fLe fLe (mC (.int 4)) (mA (mCons (mVar 0) mNil) kLen) (mC (.int 12))) (mA (mCons (mLc [1] (mSrc (mVar 0)) (gN 1) mYes (mCall phi_is_point [] (mCons (mVar 1) mNil))) mNil) (k1D fAll)))))
noncomputable def phi_has_corners_form : Phi := runFn 2 1 (fun i => [0].contains i) m_has_corners_form
noncomputable def m_is_cut_form : Vm.Env → Res Fl := (mSeq (mIf (mOr (mNot (mB (mA (mCons (mVar 0) (mCons (mU (.raw (.ty "tuple"))) mNil)) (kIsi "tuple")))) (mNot (toT (mCh fLe fLe (mC (.int 2)) (mA (mCons (mVar 0) mNil) kLen) (mOp fSub (mVar 1) (mC (.int 2))))))) (mRet (mC (.bool false))) mNext) (mSeq (mIf (mOr (mNot (mB (mA (mCons (mLc [4] (mSrc (mVar 0)) (gN 4) mYes (mCall phi_is_from_to [] (mCons (mVar 4) (mCons (mC (.int 0)) (mCons (mOp fSub (mVar 1) (mC (.int 1))) mNil))))) mNil) (k1D fAll)))) (mTs fNe (mIx (mVar 0) (mC (.int 0))) (mC (.int 0)))) (mRet (mC (.bool false))) mNext) (mRet (mA (mCons (mLc [2, 3] (mZip (mCons (mVar 0) (mCons (mSlc (mVar 0) (mOs (mC (.int 1))) mOn) mNil))) (gT 2 (gsC (gN 2) (gsC (gN 3) gsN))) mYes (mOp fLt (mVar 2) (mVar 3))) mNil) (k1D fAll)))))
noncomputable def phi_is_cut_form : Phi := runFn 5 2 (fun i => [0, 1].contains i) m_is_cut_form
noncomputable def m_is_share_of_cuts : Vm.Env → Res Fl := (mSeq (mIf (mOr (mNot (mB (mA (mCons (mVar 0) (mCons (mU (.raw (.ty "tuple"))) mNil)) (kIsi "tuple")))) (mOr (mTs fNe (mA (mCons (mVar 0) mNil) kLen) (mC (.int 2))) (mNot (mB (mCall phi_is_cut_form [] (mCons (mIx (mVar 0) (mC (.int 0))) (mCons (mVar 1) mNil))))))) (mRet (mC (.bool false))) mNext) (mRet (mAndV (mCall phi_is_integer [] (mCons (mIx (mVar 0) (mC (.int 1))) mNil)) (mOp fGe (mIx (mVar 0) (mC (.int 1))) (mC (.int 1))))))
noncomputable def phi_is_share_of_cuts : Phi := runFn 2 2 (fun i => [0, 1].contains i) m_is_share_of_cuts
noncomputable def m_has_lot_form : Vm.Env → Res Fl := (mSeq (mIf (mOr (mNot (mB (mA (mCons (mVar 0) (mCons (mU (.raw (.ty "tuple"))) mNil)) (kIsi "tuple")))) (mOr (mTs fNe (mA (mCons (mVar 0) mNil) kLen) (mC (.int 3))) (mOr (mNot (mB (mA (mCons (mIx (mVar 0) (mC (.int 0))) (mCons (mU (.raw (.ty "str"))) mNil)) (kIsi "str")))) (mTs fNe (mIx (mVar 0) (mC (.int 0))) (mC (.str "lot")))))) (mRet (mC (.bool false))) mNext) (mSeq (mAsgT 2 (mCons (mIx (mVar 0) (mC (.int 1))) (mCons (mIx (mVar 0) (mC (.int 2))) mNil)) (gsC (gN 1) (gsC (gN 2) gsN))) (mSeq (mIf (mOr (mNot (mB (mA (mCons (mVar 1) (mCons (mU (.raw (.ty "tuple"))) mNil)) (kIsi "tuple")))) (mOr (mNot (toT (mCh fLe fLe (mC (.int 4)) (mA (mCons (mVar 1) mNil) kLen) (mC (.int 12))))) (mNot (mB (mA (mCons (mLc [3] (mSrc (mVar 1)) (gN 3) mYes (mCall phi_is_integer [] (mCons (mVar 3) mNil))) mNil) (k1D fAll)))))) (mRet (mC (.bool false))) mNext) (mSeq (mIf (mOr (mNot (mB (mA (mCons (mVar 2) (mCons (mU (.raw (.ty "tuple"))) mNil)) (kIsi "tuple")))) (mNot (mB (mA (mCons (mLc [3] (mSrc (mVar 2)) (gN 3) mYes (mCall phi_is_share_of_cuts [] (mCons (mVar 3) (mCons (mA (mCons (mVar 1) mNil) kLen) mNil)))) mNil) (k1D fAll))))) (mRet (mC (.bool false))) mNext) (mRet (mA (mCons (mLc [3, 4] (mZip (mCons (mVar 2) (mCons (mSlc (mVar 2) (mOs (mC (.int 1))) mOn) mNil))) (gT 2 (gsC (gN 3) (gsC (gN 4) gsN))) mYes (mOp fLt (mIx (mVar 3) (mC (.int 0))) (mIx (mVar 4) (mC (.int 0))))) mNil) (k1D fAll)))))))
noncomputable def phi_has_lot_form : Phi := runFn 5 1 (fun i => [0].contains i) m_has_lot_form
noncomputable def m_hat_on : Vm.Env → Res Fl := (mRet (mCall phi_web_of [] (mCons (mAdd (mIx (mVar 0) (mC (.int 1))) (mC (.int 1))) (mCons (mAdd (mA (mCons (mIx (mVar 0) (mC (.int 2))) mNil) kList) (mLc [2] (mSrc (mVar 1)) (gN 2) mYes (mTup (mCons (mVar 2) (mCons (mIx (mVar 0) (mC (.int 1))) mNil))))) mNil))))
noncomputable def phi_hat_on : Phi := runFn 3 2 (fun i => [0, 1].contains i) m_hat_on
noncomputable def m_held_of : Vm.Env → Res Fl := (mSeq (mAsgT 2 (mCons (mCall phi_beside_of [] (mCons (mVar 0) mNil)) (mCons (mIx (mVar 0) (mC (.int 1))) mNil)) (gsC (gN 1) (gsC (gN 2) gsN))) (mSeq (mAsg (mLc [6] (mSrc (mVar 1)) (gN 6) (mTs fLt (mA (mCons (mVar 6) mNil) kLen) (mOp fSub (mVar 2) (mC (.int 1)))) (mA (mCons (mVar 6) mNil) kLen)) (gN 3)) (mSeq (mIf (mTs fEq (mVar 3) (mLst mNil)) (mRet (mC .none)) mNext) (mSeq (mFor (mRng1 (mCons (mA (mCons (mVar 3) mNil) (kBest false)) mNil)) (gN 4) (mFor (mSrc (mCall phi_corner_lots [] (mCons (mVar 2) (mCons (mVar 4) mNil)))) (gN 5) (mIf (mTs fGt (mA (mCons (mCall phi_pieces_beside [] (mCons (mVar 1) (mCons (mVar 5) mNil))) mNil) kLen) (mC (.int 1))) (mRet (mVar 4)) mNext))) (mRet (mA (mCons (mVar 3) mNil) (kBest false)))))))
noncomputable def phi_held_of : Phi := runFn 7 1 (fun i => [0].contains i) m_held_of
noncomputable def m_held_by : Vm.Env → Res Fl := (mRet (mCall phi_held_of [] (mCons (mCall phi_want_web [] (mCons (mVar 0) mNil)) mNil)))
noncomputable def phi_held_by : Phi := runFn 1 1 (fun i => [0].contains i) m_held_by
noncomputable def m_integer_read : Vm.Env → Res Fl := (mSeq (mAsg (mIf (mTs fEq (mSlc (mVar 0) mOn (mOs (mC (.int 1)))) (mC (.str "-"))) (mSlc (mVar 0) (mOs (mC (.int 1))) mOn) (mVar 0)) (gN 1)) (mSeq (mIf (mOr (mTs fEq (mVar 1) (mC (.str ""))) (mOr (mTs fGt (mA (mCons (mVar 1) mNil) kLen) (mC (.int 400))) (mNot (mB (mA (mCons (mLc [2] (mSrc (mVar 1)) (gN 2) mYes (mOp (fIn false) (mVar 2) (mC (.str "0123456789")))) mNil) (k1D fAll)))))) (mRet (mC .none)) mNext) (mSeq (mIf (mAnd (mTs fEq (mIx (mVar 1) (mC (.int 0))) (mC (.str "0"))) (mTs fNe (mVar 0) (mC (.str "0")))) (mRet (mC .none)) mNext) (mRet (mA (mCons (mVar 0) mNil) (kScA fInt))))))
noncomputable def phi_integer_read : Phi := runFn 3 1 (fun i => [0].contains i) m_integer_read
noncomputable def m_same_under : Vm.Env → Res Fl := (mSeq (mAsg (mC (.int 1)) (gN 1)) (mSeq (mFor (mSrc (mVar 0)) (gT 2 (gsC (gN 2) (gsC (gN 3) gsN))) (mAsg (mMul (mOp fDiv (mVar 1) (mA (mCons (mVar 1) (mCons (mVar 3) mNil)) (kScA fGcd))) (mVar 3)) (gN 1))) (mRet (mTup (mCons (mLc [2, 3] (mSrc (mVar 0)) (gT 2 (gsC (gN 2) (gsC (gN 3) gsN))) mYes (mMul (mVar 2) (mOp fDiv (mVar 1) (mVar 3)))) (mCons (mVar 1) mNil))))))
noncomputable def phi_same_under : Phi := runFn 4 1 (fun i => [0].contains i) m_same_under
noncomputable def m_is_row_of : Vm.Env → Res Fl := (mRet (mAndV (mA (mCons (mVar 1) (mCons (mU (.raw (.ty "tuple"))) mNil)) (kIsi "tuple")) (mAndV (mOp fEq (mA (mCons (mVar 1) mNil) kLen) (mA (mCons (mIx (mVar 0) (mC (.int 2))) mNil) kLen)) (mA (mCons (mLc [2] (mSrc (mVar 1)) (gN 2) mYes (mCall phi_is_ratio [] (mCons (mVar 2) mNil))) mNil) (k1D fAll)))))
noncomputable def phi_is_row_of : Phi := runFn 3 2 (fun i => [0, 1].contains i) m_is_row_of
noncomputable def m_want_row : Vm.Env → Res Fl := (mSeq (mIf (mNot (mB (mCall phi_is_row_of [] (mCons (mVar 0) (mCons (mVar 1) mNil))))) (fun _ => .stuck) mNext) (mRet (mVar 1)))
noncomputable def phi_want_row : Phi := runFn 2 2 (fun i => [0, 1].contains i) m_want_row
noncomputable def m_is_balanced : Vm.Env → Res Fl := (mSeq (mExpr (mCall phi_want_web [] (mCons (mVar 0) mNil))) (mSeq (mAsg (mCall phi_same_under [] (mCons (mCall phi_want_row [] (mCons (mVar 0) (mCons (mVar 1) mNil))) mNil)) (gT 2 (gsC (gN 2) (gsC (gN 3) gsN)))) (mRet (mCall phi_are_balanced [] (mCons (mVar 0) (mCons (mVar 2) (mCons (mVar 3) mNil)))))))
noncomputable def phi_is_balanced : Phi := runFn 4 2 (fun i => [0, 1].contains i) m_is_balanced
noncomputable def m_is_bar : Vm.Env → Res Fl := (mRet (mCall phi_is_bar_of [] (mCons (mCall phi_want_web [] (mCons (mVar 0) mNil)) (mCons (mVar 1) mNil))))
noncomputable def phi_is_bar : Phi := runFn 2 2 (fun i => [0, 1].contains i) m_is_bar
noncomputable def m_is_cut : Vm.Env → Res Fl := (mRet (mCall phi_is_cut_of [] (mCons (mCall phi_want_web [] (mCons (mVar 0) mNil)) (mCons (mVar 1) mNil))))
noncomputable def phi_is_cut : Phi := runFn 2 2 (fun i => [0, 1].contains i) m_is_cut
noncomputable def m_is_desk_name : Vm.Env → Res Fl := (mSeq (mIf (mOr (mNot (mB (mA (mCons (mVar 0) (mCons (mU (.raw (.ty "str"))) mNil)) (kIsi "str")))) (mNot (toT (mCh fLe fLe (mC (.int 1)) (mA (mCons (mVar 0) mNil) kLen) (mC (.int 8)))))) (mRet (mC (.bool false))) mNext) (mRet (mAndV (mOp (fIn false) (mIx (mVar 0) (mC (.int 0))) (mC (.str "abcdefghijklmnopqrstuvwxyz"))) (mA (mCons (mLc [1] (mSrc (mVar 0)) (gN 1) mYes (mOp (fIn false) (mVar 1) (mC (.str "abcdefghijklmnopqrstuvwxyz0123456789")))) mNil) (k1D fAll)))))
noncomputable def phi_is_desk_name : Phi := runFn 2 1 (fun i => [0].contains i) m_is_desk_name
noncomputable def m_is_face_among : Vm.Env → Res Fl := (mSeq (mIf (mOr (mNot (mB (mA (mCons (mVar 1) (mCons (mU (.raw (.ty "tuple"))) mNil)) (kIsi "tuple")))) (mNot (mB (mA (mCons (mLc [2] (mSrc (mVar 1)) (gN 2) mYes (mCall phi_is_count [] (mCons (mVar 2) mNil))) mNil) (k1D fAll))))) (mRet (mC (.bool false))) mNext) (mRet (mOp (fIn false) (mVar 1) (mVar 0))))
noncomputable def phi_is_face_among : Phi := runFn 3 2 (fun i => [0, 1].contains i) m_is_face_among
noncomputable def m_pieces_of : Vm.Env → Res Fl := (mRet (mCall phi_pieces_beside [] (mCons (mCall phi_beside_of [] (mCons (mVar 0) mNil)) (mCons (mVar 1) mNil))))
noncomputable def phi_pieces_of : Phi := runFn 2 2 (fun i => [0, 1].contains i) m_pieces_of
noncomputable def m_is_in_one_piece : Vm.Env → Res Fl := (mRet (mOp fEq (mA (mCons (mCall phi_pieces_of [] (mCons (mCall phi_want_web [] (mCons (mVar 0) mNil)) (mCons (mTup mNil) mNil))) mNil) kLen) (mC (.int 1))))
noncomputable def phi_is_in_one_piece : Phi := runFn 1 1 (fun i => [0].contains i) m_is_in_one_piece
noncomputable def m_is_list_of_ratios : Vm.Env → Res Fl := (mRet (mAndV (mIsi2 "list" "tuple" (mVar 0)) (mAndV (mOp fLe (mA (mCons (mVar 0) mNil) kLen) (mC (.int 66))) (mA (mCons (mLc [1] (mSrc (mVar 0)) (gN 1) mYes (mCall phi_is_ratio [] (mCons (mVar 1) mNil))) mNil) (k1D fAll)))))
noncomputable def phi_is_list_of_ratios : Phi := runFn 2 1 (fun i => [0].contains i) m_is_list_of_ratios
noncomputable def m_is_often : Vm.Env → Res Fl := (mSeq (mIf (mOr (mNot (mB (mA (mCons (mVar 1) (mCons (mU (.raw (.ty "tuple"))) mNil)) (kIsi "tuple")))) (mOr (mTs fNe (mA (mCons (mVar 1) mNil) kLen) (mC (.int 2))) (mOr (mNot (mB (mCall phi_is_integer [] (mCons (mIx (mVar 1) (mC (.int 1))) mNil)))) (mTs fLt (mIx (mVar 1) (mC (.int 1))) (mC (.int 1)))))) (mRet (mC (.bool false))) mNext) (mRet (mCall phi_is_cut_of [] (mCons (mVar 0) (mCons (mIx (mVar 1) (mC (.int 0))) mNil)))))
noncomputable def phi_is_often : Phi := runFn 2 2 (fun i => [0, 1].contains i) m_is_often
noncomputable def m_is_lot_like : Vm.Env → Res Fl := (mSeq (mIf (mOr (mNot (mB (mA (mCons (mVar 1) (mCons (mU (.raw (.ty "tuple"))) mNil)) (kIsi "tuple")))) (mOr (mTs fNe (mA (mCons (mVar 1) mNil) kLen) (mC (.int 3))) (mOr (mNot (mB (mA (mCons (mIx (mVar 1) (mC (.int 0))) (mCons (mU (.raw (.ty "str"))) mNil)) (kIsi "str")))) (mTs fNe (mIx (mVar 1) (mC (.int 0))) (mC (.str "lot")))))) (mRet (mC (.bool false))) mNext) (mSeq (mIf (mOr (mNot (mB (mA (mCons (mIx (mVar 1) (mC (.int 1))) (mCons (mU (.raw (.ty "tuple"))) mNil)) (kIsi "tuple")))) (mOr (mTs fNe (mA (mCons (mIx (mVar 1) (mC (.int 1))) mNil) kLen) (mIx (mVar 0) (mC (.int 1)))) (mNot (mB (mA (mCons (mIx (mVar 1) (mC (.int 2))) (mCons (mU (.raw (.ty "tuple"))) mNil)) (kIsi "tuple")))))) (mRet (mC (.bool false))) mNext) (mSeq (mIf (mOr (mNot (mB (mA (mCons (mLc [2] (mSrc (mIx (mVar 1) (mC (.int 1)))) (gN 2) mYes (mCall phi_is_integer [] (mCons (mVar 2) mNil))) mNil) (k1D fAll)))) (mNot (mB (mA (mCons (mLc [2] (mSrc (mIx (mVar 1) (mC (.int 2)))) (gN 2) mYes (mCall phi_is_often [] (mCons (mVar 0) (mCons (mVar 2) mNil)))) mNil) (k1D fAll))))) (mRet (mC (.bool false))) mNext) (mRet (mA (mCons (mLc [2, 3] (mZip (mCons (mIx (mVar 1) (mC (.int 2))) (mCons (mSlc (mIx (mVar 1) (mC (.int 2))) (mOs (mC (.int 1))) mOn) mNil))) (gT 2 (gsC (gN 2) (gsC (gN 3) gsN))) mYes (mOp fLt (mIx (mVar 2) (mC (.int 0))) (mIx (mVar 3) (mC (.int 0))))) mNil) (k1D fAll))))))
noncomputable def phi_is_lot_like : Phi := runFn 4 2 (fun i => [0, 1].contains i) m_is_lot_like
noncomputable def m_rests_of : Vm.Env → Res Fl := (mSeq (mAsg (mLst mNil) (gN 2)) (mSeq (mFor (mSrc (mIx (mVar 0) (mC (.int 2)))) (gT 2 (gsC (gN 3) (gsC (gN 4) gsN))) (mSeq (mAsg (mLc [6, 7] (mSrc (mIx (mVar 1) (mC (.int 2)))) (gT 2 (gsC (gN 6) (gsC (gN 7) gsN))) (mTs fNe (mOp (fIn false) (mVar 3) (mVar 6)) (mOp (fIn false) (mVar 4) (mVar 6))) (mVar 7)) (gN 5)) (mExpr (mMut mkAppend (pN 2) (mCons (mOp fSub (mAdd (mIx (mIx (mVar 1) (mC (.int 1))) (mVar 3)) (mIx (mIx (mVar 1) (mC (.int 1))) (mVar 4))) (mA (mCons (mVar 5) mNil) (k1D fSum))) mNil))))) (mRet (mVar 2))))
noncomputable def phi_rests_of : Phi := runFn 8 2 (fun i => [0, 1].contains i) m_rests_of
noncomputable def m_spare_of : Vm.Env → Res Fl := (mRet (mOp fSub (mA (mCons (mLc [1, 2] (mSrc (mIx (mVar 0) (mC (.int 2)))) (gT 2 (gsC (gN 1) (gsC (gN 2) gsN))) mYes (mVar 2)) mNil) (k1D fSum)) (mA (mCons (mIx (mVar 0) (mC (.int 1))) mNil) (k1D fSum))))
noncomputable def phi_spare_of : Phi := runFn 3 1 (fun i => [0].contains i) m_spare_of
noncomputable def m_is_lot_of : Vm.Env → Res Fl := (mSeq (mIf (mNot (mB (mCall phi_is_lot_like [] (mCons (mVar 0) (mCons (mVar 1) mNil))))) (mRet (mC (.bool false))) mNext) (mSeq (mPar [2, 3] (mCons (mCall phi_rests_of [] (mCons (mVar 0) (mCons (mVar 1) mNil))) (mCons (mCall phi_spare_of [] (mCons (mVar 1) mNil)) mNil))) (mSeq (mIf (mOr (mTs fLt (mVar 3) (mC (.int 0))) (mNot (mB (mA (mCons (mLc [4] (mSrc (mVar 2)) (gN 4) mYes (mOp fGe (mVar 4) (mC (.int 0)))) mNil) (k1D fAll))))) (mRet (mC (.bool false))) mNext) (mRet (mOrV (mOp fGt (mVar 3) (mC (.int 0))) (mOrV (mOp fNe (mIx (mVar 1) (mC (.int 2))) (mTup mNil)) (mA (mCons (mVar 2) mNil) (k1D fAny))))))))
noncomputable def phi_is_lot_of : Phi := runFn 5 2 (fun i => [0, 1].contains i) m_is_lot_of
noncomputable def m_is_lot : Vm.Env → Res Fl := (mRet (mCall phi_is_lot_of [] (mCons (mCall phi_want_web [] (mCons (mVar 0) mNil)) (mCons (mVar 1) mNil))))
noncomputable def phi_is_lot : Phi := runFn 2 2 (fun i => [0, 1].contains i) m_is_lot
noncomputable def m_is_weights_of : Vm.Env → Res Fl := (mSeq (mIf (mNot (mB (mCall phi_is_row_of [] (mCons (mVar 0) (mCons (mVar 1) mNil))))) (mRet (mC (.bool false))) mNext) (mSeq (mAsg (mCall phi_same_under [] (mCons (mVar 1) mNil)) (gT 2 (gsC (gN 2) (gsC (gN 3) gsN)))) (mSeq (mIf (mOr (mNot (mB (mA (mCons (mLc [4] (mSrc (mVar 2)) (gN 4) mYes (mOp fGt (mVar 4) (mC (.int 0)))) mNil) (k1D fAll)))) (mNot (mB (mCall phi_are_balanced [] (mCons (mVar 0) (mCons (mVar 2) (mCons (mVar 3) mNil))))))) (mRet (mC (.bool false))) mNext) (mRet (mOp fGt (mIx (mCall phi_cut_least [] (mCons (mVar 0) (mCons (mVar 2) mNil))) (mC (.int 0))) (mVar 3))))))
noncomputable def phi_is_weights_of : Phi := runFn 5 2 (fun i => [0, 1].contains i) m_is_weights_of
noncomputable def m_is_paper_for : Vm.Env → Res Fl := (mSeq (mIf (mAnd (mB (mA (mCons (mVar 1) (mCons (mU (.raw (.ty "tuple"))) mNil)) (kIsi "tuple"))) (mAnd (mTs fEq (mA (mCons (mVar 1) mNil) kLen) (mC (.int 2))) (mAnd (mB (mA (mCons (mIx (mVar 1) (mC (.int 0))) (mCons (mU (.raw (.ty "str"))) mNil)) (kIsi "str"))) (mTs fEq (mIx (mVar 1) (mC (.int 0))) (mC (.str "weights")))))) (mRet (mCall phi_is_weights_of [] (mCons (mVar 0) (mCons (mIx (mVar 1) (mC (.int 1))) mNil)))) mNext) (mRet (mCall phi_is_lot_of [] (mCons (mVar 0) (mCons (mVar 1) mNil)))))
noncomputable def phi_is_paper_for : Phi := runFn 2 2 (fun i => [0, 1].contains i) m_is_paper_for
noncomputable def m_is_row : Vm.Env → Res Fl := (mRet (mCall phi_is_row_of [] (mCons (mCall phi_want_web [] (mCons (mVar 0) mNil)) (mCons (mVar 1) mNil))))
noncomputable def phi_is_row : Phi := runFn 2 2 (fun i => [0, 1].contains i) m_is_row
noncomputable def m_is_sure_of : Vm.Env → Res Fl := (mSeq (mPar [2, 3] (mCons (mCall phi_held_of [] (mCons (mVar 0) mNil)) (mCons (mLc [4] (mSrc (mCall phi_beside_of [] (mCons (mVar 0) mNil))) (gN 4) mYes (mA (mCons (mVar 4) mNil) kLen)) mNil))) (mSeq (mIf (mOr (toT (mUn (fNo id) (mVar 2))) (mTs fGe (mVar 2) (mC (.int 4)))) (mRet (mC (.bool true))) mNext) (mRet (mAndV (mOp fEq (mA (mCons (mLc [5] (mSrc (mVar 1)) (gN 5) mYes (mA (mCons (mVar 5) mNil) kLen)) mNil) (kBest true)) (mC (.int 3))) (mAndV (mOp fGe (mA (mCons (mVar 3) mNil) (kBest false)) (mC (.int 4))) (mOp fLe (mA (mCons (mVar 3) mNil) (kBest true)) (mC (.int 6))))))))
noncomputable def phi_is_sure_of : Phi := runFn 6 2 (fun i => [0, 1].contains i) m_is_sure_of
noncomputable def m_is_tied : Vm.Env → Res Fl := (mSeq (mExpr (mCall phi_want_web [] (mCons (mVar 0) mNil))) (mRet (mOp (fIn false) (mCall phi_tie_of [] (mCons (mCall phi_want_corner [] (mCons (mVar 0) (mCons (mVar 1) mNil))) (mCons (mCall phi_want_corner [] (mCons (mVar 0) (mCons (mVar 2) mNil))) mNil))) (mIx (mVar 0) (mC (.int 2))))))
noncomputable def phi_is_tied : Phi := runFn 3 3 (fun i => [0, 1, 2].contains i) m_is_tied
noncomputable def m_is_weights : Vm.Env → Res Fl := (mRet (mCall phi_is_weights_of [] (mCons (mCall phi_want_web [] (mCons (mVar 0) mNil)) (mCons (mVar 1) mNil))))
noncomputable def phi_is_weights : Phi := runFn 2 2 (fun i => [0, 1].contains i) m_is_weights
noncomputable def m_is_whole_round : Vm.Env → Res Fl := (mSeq (mExpr (mCall phi_want_web [] (mCons (mVar 0) mNil))) (mSeq (mIf (mOr (mNot (mB (mA (mCons (mVar 1) (mCons (mU (.raw (.ty "tuple"))) mNil)) (kIsi "tuple")))) (mNot (mB (mA (mCons (mLc [2] (mSrc (mVar 1)) (gN 2) mYes (mCall phi_is_count [] (mCons (mVar 2) mNil))) mNil) (k1D fAll))))) (mRet (mC (.bool false))) mNext) (mSeq (mIf (mOr (mTs fNe (mA (mCons (mVar 1) mNil) kSorted) (m1 (mIx (mVar 0) (mC (.int 1))) kL1)) (mOr (mTs fNe (mIx (mVar 1) (mC (.int 0))) (mC (.int 0))) (mTs fGt (mIx (mVar 1) (mC (.int 1))) (mIx (mVar 1) (mUn fNeg (mC (.int 1))))))) (mRet (mC (.bool false))) mNext) (mRet (mA (mCons (mLc [2, 3] (mZip (mCons (mVar 1) (mCons (mAdd (mSlc (mVar 1) (mOs (mC (.int 1))) mOn) (mSlc (mVar 1) mOn (mOs (mC (.int 1))))) mNil))) (gT 2 (gsC (gN 2) (gsC (gN 3) gsN))) mYes (mOp (fIn false) (mCall phi_tie_of [] (mCons (mVar 2) (mCons (mVar 3) mNil))) (mIx (mVar 0) (mC (.int 2))))) mNil) (k1D fAll))))))
noncomputable def phi_is_whole_round : Phi := runFn 4 2 (fun i => [0, 1].contains i) m_is_whole_round
noncomputable def m_least_bar : Vm.Env → Res Fl := (mSeq (mExpr (mCall phi_want_at_most [] (mCons (mC (.str "corners")) (mCons (mC (.int 10)) (mCons (mIx (mCall phi_want_web [] (mCons (mVar 0) mNil)) (mC (.int 1))) mNil))))) (mRet (mCall phi_first_bar [] (mCons (mVar 0) mNil))))
noncomputable def phi_least_bar : Phi := runFn 1 1 (fun i => [0].contains i) m_least_bar
noncomputable def m_least_cut : Vm.Env → Res Fl := (mSeq (mExpr (mCall phi_want_web [] (mCons (mVar 0) mNil))) (mSeq (mAsg (mCall phi_same_under [] (mCons (mCall phi_want_row [] (mCons (mVar 0) (mCons (mVar 1) mNil))) mNil)) (gT 2 (gsC (gN 2) (gsC (gN 3) gsN)))) (mSeq (mAsg (mCall phi_cut_least [] (mCons (mVar 0) (mCons (mVar 2) mNil))) (gT 2 (gsC (gN 4) (gsC (gN 5) gsN)))) (mRet (mTup (mCons (mCall phi_bare_ratio [] (mCons (mVar 4) (mCons (mVar 3) mNil))) (mCons (mVar 5) mNil)))))))
noncomputable def phi_least_cut : Phi := runFn 6 2 (fun i => [0, 1].contains i) m_least_cut
noncomputable def m_less_of : Vm.Env → Res Fl := (mRet (mCall phi_bare_ratio [] (mCons (mOp fSub (mMul (mIx (mVar 0) (mC (.int 0))) (mIx (mVar 1) (mC (.int 1)))) (mMul (mIx (mVar 1) (mC (.int 0))) (mIx (mVar 0) (mC (.int 1))))) (mCons (mMul (mIx (mVar 0) (mC (.int 1))) (mIx (mVar 1) (mC (.int 1)))) mNil))))
noncomputable def phi_less_of : Phi := runFn 2 2 (fun i => [0, 1].contains i) m_less_of
noncomputable def m_less_than : Vm.Env → Res Fl := (mRet (mOp fLt (mMul (mIx (mVar 0) (mC (.int 0))) (mIx (mVar 1) (mC (.int 1)))) (mMul (mIx (mVar 1) (mC (.int 0))) (mIx (mVar 0) (mC (.int 1))))))
noncomputable def phi_less_than : Phi := runFn 2 2 (fun i => [0, 1].contains i) m_less_than
noncomputable def m_level_points : Vm.Env → Res Fl := (mRet (mLc [2, 3, 4] (mSrc (mVar 0)) (gT 3 (gsC (gN 2) (gsC (gN 3) (gsC (gN 4) gsN)))) mYes (mCall phi_bare_point [] (mCons (mMul (mC (.int 4)) (mVar 2)) (mCons (mMul (mC (.int 4)) (mVar 3)) (mCons (mMul (mVar 1) (mVar 4)) (mCons (mMul (mC (.int 5)) (mVar 4)) mNil)))))))
noncomputable def phi_level_points : Phi := runFn 5 2 (fun i => [0, 1].contains i) m_level_points
noncomputable def m_loose_parts : Vm.Env → Res Fl := (mSeq (mAsg (mLst mNil) (gN 4)) (mSeq (mFor (mSrc (mIx (mVar 0) (mC (.int 2)))) (gN 5) (mIf (mAnd (mTs (fIn false) (mIx (mVar 5) (mC (.int 0))) (mVar 2)) (mAnd (mTs (fIn false) (mIx (mVar 5) (mC (.int 1))) (mVar 2)) (mTs (fIn true) (mVar 5) (mVar 3)))) (mExpr (mMut mkAppend (pN 4) (mCons (mTup (mCons (mA (mCons (mVar 5) mNil) kList) (mCons (mLst mNil) mNil))) mNil))) mNext)) (mSeq (mFor (mSrc (mCall phi_pieces_beside [] (mCons (mVar 1) (mCons (mVar 2) mNil)))) (gN 6) (mSeq (mAsg (mLc [8] (mSrc (mA (mCons (mVar 2) mNil) kSorted)) (gN 8) (mB (mA (mCons (mLc [9] (mSrc (mVar 6)) (gN 9) mYes (mOp (fIn false) (mVar 8) (mIx (mVar 1) (mVar 9)))) mNil) (k1D fAny))) (mVar 8)) (gN 7)) (mExpr (mMut mkAppend (pN 4) (mCons (mTup (mCons (mVar 7) (mCons (mVar 6) mNil))) mNil))))) (mRet (mVar 4)))))
noncomputable def phi_loose_parts : Phi := runFn 10 4 (fun i => [0, 1, 2, 3].contains i) m_loose_parts
noncomputable def m_want_balanced : Vm.Env → Res Fl := (mSeq (mAsg (mCall phi_same_under [] (mCons (mCall phi_want_row [] (mCons (mVar 0) (mCons (mVar 1) mNil))) mNil)) (gT 2 (gsC (gN 2) (gsC (gN 3) gsN)))) (mSeq (mIf (mNot (mB (mCall phi_are_balanced [] (mCons (mVar 0) (mCons (mVar 2) (mCons (mVar 3) mNil)))))) (fun _ => .stuck) mNext) (mRet (mVar 1))))
noncomputable def phi_want_balanced : Phi := runFn 4 2 (fun i => [0, 1].contains i) m_want_balanced
noncomputable def m_want_lot : Vm.Env → Res Fl := (mSeq (mIf (mNot (mB (mCall phi_is_lot_of [] (mCons (mVar 0) (mCons (mVar 1) mNil))))) (fun _ => .stuck) mNext) (mRet (mVar 1)))
noncomputable def phi_want_lot : Phi := runFn 2 2 (fun i => [0, 1].contains i) m_want_lot
noncomputable def m_lot_met : Vm.Env → Res Fl := (mSeq (mExpr (mCall phi_want_web [] (mCons (mVar 0) mNil))) (mSeq (mExpr (mCall phi_want_lot [] (mCons (mVar 0) (mCons (mVar 1) mNil)))) (mSeq (mExpr (mCall phi_want_balanced [] (mCons (mVar 0) (mCons (mVar 2) mNil)))) (mSeq (mAsg (mCall phi_same_under [] (mCons (mVar 2) mNil)) (gT 2 (gsC (gN 3) (gsC (gN 4) gsN)))) (mSeq (mAsg (mA (mCons (mLc [9, 10] (mZip (mCons (mCall phi_rests_of [] (mCons (mVar 0) (mCons (mVar 1) mNil))) (mCons (mVar 3) mNil))) (gT 2 (gsC (gN 9) (gsC (gN 10) gsN))) mYes (mMul (mVar 9) (mVar 10))) mNil) (k1D fSum)) (gN 5)) (mSeq (mFor (mSrc (mIx (mVar 1) (mC (.int 2)))) (gT 2 (gsC (gN 6) (gsC (gN 7) gsN))) (mSeq (mAsg (mLc [11, 10] (mZip (mCons (mIx (mVar 0) (mC (.int 2))) (mCons (mVar 3) mNil))) (gT 2 (gsC (gN 11) (gsC (gN 10) gsN))) (mTs fNe (mOp (fIn false) (mIx (mVar 11) (mC (.int 0))) (mVar 6)) (mOp (fIn false) (mIx (mVar 11) (mC (.int 1))) (mVar 6))) (mVar 10)) (gN 8)) (mAsg (mAdd (mVar 5) (mMul (mVar 7) (mOp fSub (mA (mCons (mVar 8) mNil) (k1D fSum)) (mVar 4)))) (gN 5)))) (mRet (mCall phi_bare_ratio [] (mCons (mVar 5) (mCons (mVar 4) mNil))))))))))
noncomputable def phi_lot_met : Phi := runFn 12 3 (fun i => [0, 1, 2].contains i) m_lot_met
noncomputable def m_lot_rests : Vm.Env → Res Fl := (mRet (mCall phi_rests_of [] (mCons (mCall phi_want_web [] (mCons (mVar 0) mNil)) (mCons (mCall phi_want_lot [] (mCons (mVar 0) (mCons (mVar 1) mNil))) mNil))))
noncomputable def phi_lot_rests : Phi := runFn 2 2 (fun i => [0, 1].contains i) m_lot_rests
noncomputable def m_lot_spare : Vm.Env → Res Fl := (mSeq (mExpr (mCall phi_want_web [] (mCons (mVar 0) mNil))) (mRet (mCall phi_spare_of [] (mCons (mCall phi_want_lot [] (mCons (mVar 0) (mCons (mVar 1) mNil))) mNil))))
noncomputable def phi_lot_spare : Phi := runFn 2 2 (fun i => [0, 1].contains i) m_lot_spare
noncomputable def m_want_point : Vm.Env → Res Fl := (mSeq (mIf (mNot (mB (mCall phi_is_point [] (mCons (mVar 0) mNil)))) (fun _ => .stuck) mNext) (mRet (mVar 0)))
noncomputable def phi_want_point : Phi := runFn 1 1 (fun i => [0].contains i) m_want_point
noncomputable def m_lowered : Vm.Env → Res Fl := (mSeq (mAsg (mCall phi_want_point [] (mCons (mVar 0) mNil)) (gT 4 (gsC (gN 1) (gsC (gN 2) (gsC (gN 3) (gsC (gN 4) gsN)))))) (mSeq (mIf (mTs fEq (mVar 0) (mC (.tuple [.int 0, .int 0, .int 1, .int 1]))) (fun _ => .stuck) mNext) (mRet (mTup (mCons (mCall phi_bare_ratio [] (mCons (mVar 1) (mCons (mOp fSub (mVar 4) (mVar 3)) mNil))) (mCons (mCall phi_bare_ratio [] (mCons (mVar 2) (mCons (mOp fSub (mVar 4) (mVar 3)) mNil))) mNil))))))
noncomputable def phi_lowered : Phi := runFn 5 1 (fun i => [0].contains i) m_lowered
noncomputable def m_mended : Vm.Env → Res Fl := (mSeq (mAsg (mA (mCons (mAdd (mLst (mCons (mOp fShl (mC (.int 1)) (mVar 2)) mNil)) (mLc [6] (mSrc (mVar 1)) (gN 6) mYes (mA (mCons (mVar 6) mNil) (kScA fAbs)))) mNil) (kBest true)) (gN 3)) (mSeq (mAsg (mLst mNil) (gN 4)) (mSeq (mFor (mZip (mCons (mVar 0) (mCons (mVar 1) mNil))) (gT 2 (gsC (gN 5) (gsC (gN 6) gsN))) (mSeq (mAsg (mOp fDiv (mOp fShl (mVar 6) (mVar 2)) (mVar 3)) (gN 7)) (mExpr (mMut mkAppend (pN 4) (mCons (mOp fDiv (mMul (mVar 5) (mAdd (mOp fShl (mC (.int 2)) (mVar 2)) (mVar 7))) (mOp fSub (mOp fShl (mC (.int 2)) (mVar 2)) (mVar 7))) mNil))))) (mRet (mVar 4)))))
noncomputable def phi_mended : Phi := runFn 8 3 (fun i => [0, 1, 2].contains i) m_mended
noncomputable def m_plus_of : Vm.Env → Res Fl := (mRet (mCall phi_bare_ratio [] (mCons (mAdd (mMul (mIx (mVar 0) (mC (.int 0))) (mIx (mVar 1) (mC (.int 1)))) (mMul (mIx (mVar 1) (mC (.int 0))) (mIx (mVar 0) (mC (.int 1))))) (mCons (mMul (mIx (mVar 0) (mC (.int 1))) (mIx (mVar 1) (mC (.int 1)))) mNil))))
noncomputable def phi_plus_of : Phi := runFn 2 2 (fun i => [0, 1].contains i) m_plus_of
noncomputable def m_times_of : Vm.Env → Res Fl := (mRet (mCall phi_bare_ratio [] (mCons (mMul (mIx (mVar 0) (mC (.int 0))) (mIx (mVar 1) (mC (.int 0)))) (mCons (mMul (mIx (mVar 0) (mC (.int 1))) (mIx (mVar 1) (mC (.int 1)))) mNil))))
noncomputable def phi_times_of : Phi := runFn 2 2 (fun i => [0, 1].contains i) m_times_of
noncomputable def m_mix_of : Vm.Env → Res Fl := (mSeq (mAsg (mCall phi_less_of [] (mCons (mC (.tuple [.int 1, .int 1])) (mCons (mVar 2) mNil))) (gN 3)) (mRet (mA (mCons (mLc [4, 5] (mZip (mCons (mVar 0) (mCons (mVar 1) mNil))) (gT 2 (gsC (gN 4) (gsC (gN 5) gsN))) mYes (mCall phi_plus_of [] (mCons (mCall phi_times_of [] (mCons (mVar 3) (mCons (mVar 4) mNil))) (mCons (mCall phi_times_of [] (mCons (mVar 2) (mCons (mVar 5) mNil))) mNil)))) mNil) kTuple)))
noncomputable def phi_mix_of : Phi := runFn 6 3 (fun i => [0, 1, 2].contains i) m_mix_of
noncomputable def m_mixed : Vm.Env → Res Fl := (mSeq (mExpr (mCall phi_want_web [] (mCons (mVar 0) mNil))) (mSeq (mExpr (mCall phi_want_row [] (mCons (mVar 0) (mCons (mVar 1) mNil)))) (mSeq (mExpr (mCall phi_want_row [] (mCons (mVar 0) (mCons (mVar 2) mNil)))) (mSeq (mExpr (mCall phi_want_ratio [] (mCons (mVar 3) mNil))) (mSeq (mIf (mOr (mB (mCall phi_less_than [] (mCons (mVar 3) (mCons (mC (.tuple [.int 0, .int 1])) mNil)))) (mB (mCall phi_less_than [] (mCons (mC (.tuple [.int 1, .int 1])) (mCons (mVar 3) mNil))))) (fun _ => .stuck) mNext) (mRet (mCall phi_mix_of [] (mCons (mVar 1) (mCons (mVar 2) (mCons (mVar 3) mNil))))))))))
noncomputable def phi_mixed : Phi := runFn 4 4 (fun i => [0, 1, 2, 3].contains i) m_mixed
noncomputable def m_names_of : Vm.Env → Res Fl := (mSeq (mAsg (mMul (mLst (mCons (mC (.int 0)) mNil)) (mA (mCons (mVar 0) mNil) kLen)) (gN 1)) (mSeq (mFor (mEnum (mCons (mVar 0) mNil)) (gT 2 (gsC (gN 2) (gsC (gN 3) gsN))) (mAsg (mVar 2) (gIx (pN 1) (mVar 3)))) (mRet (mA (mCons (mVar 1) mNil) kTuple))))
noncomputable def phi_names_of : Phi := runFn 4 1 (fun i => [0].contains i) m_names_of
noncomputable def m_over_of : Vm.Env → Res Fl := (mRet (mCall phi_bare_ratio [] (mCons (mMul (mIx (mVar 0) (mC (.int 0))) (mIx (mVar 1) (mC (.int 1)))) (mCons (mMul (mIx (mVar 0) (mC (.int 1))) (mIx (mVar 1) (mC (.int 0)))) mNil))))
noncomputable def phi_over_of : Phi := runFn 2 2 (fun i => [0, 1].contains i) m_over_of
noncomputable def m_parting_of : Vm.Env → Res Fl := (mSeq (mPar [1, 2] (mCons (mCall phi_beside_of [] (mCons (mVar 0) mNil)) (mCons (m1 (mIx (mVar 0) (mC (.int 1))) kL1) mNil))) (mSeq (mAsg (mAdd (mLst (mCons (mTup mNil) mNil)) (mLc [4] (mSrc (mVar 2)) (gN 4) mYes (mTup (mCons (mVar 4) mNil)))) (gN 3)) (mSeq (mFor (mSrc (mVar 2)) (gN 4) (mExpr (mMut mkExtend (pN 3) (mCons (mLc [6] (mRng2 (mCons (mAdd (mVar 4) (mC (.int 1))) (mCons (mIx (mVar 0) (mC (.int 1))) mNil))) (gN 6) mYes (mTup (mCons (mVar 4) (mCons (mVar 6) mNil)))) mNil)))) (mSeq (mFor (mSrc (mVar 3)) (gN 5) (mIf (mTs fGt (mA (mCons (mCall phi_pieces_beside [] (mCons (mVar 1) (mCons (mVar 5) mNil))) mNil) kLen) (mC (.int 1))) (mRet (mVar 5)) mNext)) (mRet (mC .none))))))
noncomputable def phi_parting_of : Phi := runFn 7 1 (fun i => [0].contains i) m_parting_of
noncomputable def m_parting : Vm.Env → Res Fl := (mRet (mCall phi_parting_of [] (mCons (mCall phi_want_web [] (mCons (mVar 0) mNil)) mNil)))
noncomputable def phi_parting : Phi := runFn 1 1 (fun i => [0].contains i) m_parting
noncomputable def m_want_taken : Vm.Env → Res Fl := (mSeq (mIf (mOr (mNot (mB (mA (mCons (mVar 1) (mCons (mU (.raw (.ty "tuple"))) mNil)) (kIsi "tuple")))) (mNot (mB (mA (mCons (mLc [4] (mSrc (mVar 1)) (gN 4) mYes (mAndV (mCall phi_is_count [] (mCons (mVar 4) mNil)) (mOp fLt (mVar 4) (mIx (mVar 0) (mC (.int 1)))))) mNil) (k1D fAll))))) (fun _ => .stuck) mNext) (mSeq (mIf (mNot (mB (mA (mCons (mLc [2, 3] (mZip (mCons (mVar 1) (mCons (mSlc (mVar 1) (mOs (mC (.int 1))) mOn) mNil))) (gT 2 (gsC (gN 2) (gsC (gN 3) gsN))) mYes (mOp fLt (mVar 2) (mVar 3))) mNil) (k1D fAll)))) (fun _ => .stuck) mNext) (mRet (mVar 1))))
noncomputable def phi_want_taken : Phi := runFn 5 2 (fun i => [0, 1].contains i) m_want_taken
noncomputable def m_pieces : Vm.Env → Res Fl := (mSeq (mExpr (mCall phi_want_web [] (mCons (mVar 0) mNil))) (mRet (mCall phi_pieces_of [] (mCons (mVar 0) (mCons (mCall phi_want_taken [] (mCons (mVar 0) (mCons (mVar 1) mNil))) mNil)))))
noncomputable def phi_pieces : Phi := runFn 2 2 (fun i => [0, 1].contains i) m_pieces
noncomputable def m_raised_point : Vm.Env → Res Fl := (mSeq (mPar [3, 4] (mCons (mAdd (mMul (mVar 0) (mVar 0)) (mMul (mVar 1) (mVar 1))) (mCons (mMul (mVar 2) (mVar 2)) mNil))) (mRet (mCall phi_bare_point [] (mCons (mMul (mMul (mC (.int 2)) (mVar 0)) (mVar 2)) (mCons (mMul (mMul (mC (.int 2)) (mVar 1)) (mVar 2)) (mCons (mOp fSub (mVar 3) (mVar 4)) (mCons (mAdd (mVar 3) (mVar 4)) mNil)))))))
noncomputable def phi_raised_point : Phi := runFn 5 3 (fun i => [0, 1, 2].contains i) m_raised_point
noncomputable def m_points_at : Vm.Env → Res Fl := (mSeq (mAsg (mLst mNil) (gN 4)) (mSeq (mFor (mRng1 (mCons (mIx (mVar 0) (mC (.int 1))) mNil)) (gN 5) (mIf (mTs fEq (mVar 5) (mVar 2)) (mExpr (mMut mkAppend (pN 4) (mCons (mC (.tuple [.int 0, .int 0, .int 1, .int 1])) mNil))) (mExpr (mMut mkAppend (pN 4) (mCons (mCall phi_raised_point [] (mCons (mIx (mIx (mVar 1) (mVar 5)) (mC (.int 0))) (mCons (mIx (mIx (mVar 1) (mVar 5)) (mC (.int 1))) (mCons (mOp fShl (mC (.int 1)) (mVar 3)) mNil)))) mNil))))) (mRet (mA (mCons (mVar 4) mNil) kTuple))))
noncomputable def phi_points_at : Phi := runFn 6 4 (fun i => [0, 1, 2, 3].contains i) m_points_at
noncomputable def m_prism : Vm.Env → Res Fl := (mSeq (mExpr (mCall phi_want_many [] (mCons (mVar 0) (mCons (mC (.int 6)) (mCons (mC (.int 3)) mNil))))) (mSeq (mAsg (mAdd (mCall phi_round_ties [] (mCons (mC (.int 0)) (mCons (mVar 0) mNil))) (mCall phi_round_ties [] (mCons (mVar 0) (mCons (mVar 0) mNil)))) (gN 1)) (mRet (mCall phi_web_of [] (mCons (mMul (mC (.int 2)) (mVar 0)) (mCons (mAdd (mVar 1) (mLc [2] (mRng1 (mCons (mVar 0) mNil)) (gN 2) mYes (mTup (mCons (mVar 2) (mCons (mAdd (mVar 0) (mVar 2)) mNil))))) mNil))))))
noncomputable def phi_prism : Phi := runFn 3 1 (fun i => [0].contains i) m_prism
noncomputable def m_round_directions : Vm.Env → Res Fl := (mRet (mLc [1] (mSrc (mCall phi_half_tangents [] (mCons (mVar 0) mNil))) (gN 1) mYes (mCall phi_direction_of [] (mCons (mVar 1) (mCons (mC (.int 3)) mNil)))))
noncomputable def phi_round_directions : Phi := runFn 2 1 (fun i => [0].contains i) m_round_directions
noncomputable def m_prism_corners : Vm.Env → Res Fl := (mSeq (mAsg (mCall phi_round_directions [] (mCons (mCall phi_want_many [] (mCons (mVar 0) (mCons (mC (.int 6)) (mCons (mC (.int 3)) mNil)))) mNil)) (gN 1)) (mRet (mA (mCons (mAdd (mCall phi_level_points [] (mCons (mVar 1) (mCons (mC (.int 3)) mNil))) (mCall phi_level_points [] (mCons (mVar 1) (mCons (mUn fNeg (mC (.int 3))) mNil)))) mNil) kTuple)))
noncomputable def phi_prism_corners : Phi := runFn 2 1 (fun i => [0].contains i) m_prism_corners
noncomputable def m_pyramid : Vm.Env → Res Fl := (mSeq (mExpr (mCall phi_want_many [] (mCons (mVar 0) (mCons (mC (.int 11)) (mCons (mC (.int 3)) mNil))))) (mRet (mCall phi_web_of [] (mCons (mAdd (mVar 0) (mC (.int 1))) (mCons (mAdd (mCall phi_round_ties [] (mCons (mC (.int 0)) (mCons (mVar 0) mNil))) (mLc [1] (mRng1 (mCons (mVar 0) mNil)) (gN 1) mYes (mTup (mCons (mVar 1) (mCons (mVar 0) mNil))))) mNil)))))
noncomputable def phi_pyramid : Phi := runFn 2 1 (fun i => [0].contains i) m_pyramid
noncomputable def m_pyramid_corners : Vm.Env → Res Fl := (mRet (mA (mCons (mAdd (mCall phi_equator_points [] (mCons (mCall phi_round_directions [] (mCons (mCall phi_want_many [] (mCons (mVar 0) (mCons (mC (.int 11)) (mCons (mC (.int 3)) mNil)))) mNil)) mNil)) (mLst (mCons (mC (.tuple [.int 0, .int 0, .int 1, .int 1])) mNil))) mNil) kTuple))
noncomputable def phi_pyramid_corners : Phi := runFn 1 1 (fun i => [0].contains i) m_pyramid_corners
noncomputable def m_want_integer : Vm.Env → Res Fl := (mSeq (mIf (mNot (mB (mCall phi_is_integer [] (mCons (mVar 0) mNil)))) (fun _ => .stuck) mNext) (mRet (mVar 0)))
noncomputable def phi_want_integer : Phi := runFn 1 1 (fun i => [0].contains i) m_want_integer
noncomputable def m_raised : Vm.Env → Res Fl := (mSeq (mExpr (mCall phi_want_integer [] (mCons (mVar 0) mNil))) (mSeq (mExpr (mCall phi_want_integer [] (mCons (mVar 1) mNil))) (mSeq (mIf (mTs fLt (mCall phi_want_integer [] (mCons (mVar 2) mNil)) (mC (.int 1))) (fun _ => .stuck) mNext) (mRet (mCall phi_raised_point [] (mCons (mVar 0) (mCons (mVar 1) (mCons (mVar 2) mNil))))))))
noncomputable def phi_raised : Phi := runFn 3 3 (fun i => [0, 1, 2].contains i) m_raised
noncomputable def m_ratio_compared : Vm.Env → Res Fl := (mRet (mCall phi_compared_of [] (mCons (mCall phi_want_ratio [] (mCons (mVar 0) mNil)) (mCons (mCall phi_want_ratio [] (mCons (mVar 1) mNil)) mNil))))
noncomputable def phi_ratio_compared : Phi := runFn 2 2 (fun i => [0, 1].contains i) m_ratio_compared
noncomputable def m_ratio_made : Vm.Env → Res Fl := (mSeq (mExpr (mCall phi_want_integer [] (mCons (mVar 0) mNil))) (mSeq (mIf (mTs fEq (mCall phi_want_integer [] (mCons (mVar 1) mNil)) (mC (.int 0))) (fun _ => .stuck) mNext) (mRet (mCall phi_bare_ratio [] (mCons (mVar 0) (mCons (mVar 1) mNil))))))
noncomputable def phi_ratio_made : Phi := runFn 2 2 (fun i => [0, 1].contains i) m_ratio_made
noncomputable def m_ratio_minus : Vm.Env → Res Fl := (mRet (mCall phi_less_of [] (mCons (mCall phi_want_ratio [] (mCons (mVar 0) mNil)) (mCons (mCall phi_want_ratio [] (mCons (mVar 1) mNil)) mNil))))
noncomputable def phi_ratio_minus : Phi := runFn 2 2 (fun i => [0, 1].contains i) m_ratio_minus
noncomputable def m_ratio_over : Vm.Env → Res Fl := (mSeq (mExpr (mCall phi_want_ratio [] (mCons (mVar 0) mNil))) (mSeq (mIf (mTs fEq (mIx (mCall phi_want_ratio [] (mCons (mVar 1) mNil)) (mC (.int 0))) (mC (.int 0))) (fun _ => .stuck) mNext) (mRet (mCall phi_over_of [] (mCons (mVar 0) (mCons (mVar 1) mNil))))))
noncomputable def phi_ratio_over : Phi := runFn 2 2 (fun i => [0, 1].contains i) m_ratio_over
noncomputable def m_ratio_plus : Vm.Env → Res Fl := (mRet (mCall phi_plus_of [] (mCons (mCall phi_want_ratio [] (mCons (mVar 0) mNil)) (mCons (mCall phi_want_ratio [] (mCons (mVar 1) mNil)) mNil))))
noncomputable def phi_ratio_plus : Phi := runFn 2 2 (fun i => [0, 1].contains i) m_ratio_plus
noncomputable def m_sum_of : Vm.Env → Res Fl := (mSeq (mAsg (mCall phi_same_under [] (mCons (mVar 0) mNil)) (gT 2 (gsC (gN 1) (gsC (gN 2) gsN)))) (mRet (mCall phi_bare_ratio [] (mCons (mA (mCons (mVar 1) mNil) (k1D fSum)) (mCons (mVar 2) mNil)))))
noncomputable def phi_sum_of : Phi := runFn 3 1 (fun i => [0].contains i) m_sum_of
noncomputable def m_ratio_sum : Vm.Env → Res Fl := (mSeq (mIf (mOr (mNot (mB (mIsi2 "list" "tuple" (mVar 0)))) (mNot (mB (mA (mCons (mLc [1] (mSrc (mVar 0)) (gN 1) mYes (mCall phi_is_ratio [] (mCons (mVar 1) mNil))) mNil) (k1D fAll))))) (fun _ => .stuck) mNext) (mRet (mCall phi_sum_of [] (mCons (mVar 0) mNil))))
noncomputable def phi_ratio_sum : Phi := runFn 2 1 (fun i => [0].contains i) m_ratio_sum
noncomputable def m_ratio_times : Vm.Env → Res Fl := (mRet (mCall phi_times_of [] (mCons (mCall phi_want_ratio [] (mCons (mVar 0) mNil)) (mCons (mCall phi_want_ratio [] (mCons (mVar 1) mNil)) mNil))))
noncomputable def phi_ratio_times : Phi := runFn 2 2 (fun i => [0, 1].contains i) m_ratio_times
noncomputable def m_renamed_by : Vm.Env → Res Fl := (mRet (mTup (mCons (mC (.str "web")) (mCons (mIx (mVar 0) (mC (.int 1))) (mCons (mA (mCons (mA (mCons (mLc [2, 3] (mSrc (mIx (mVar 0) (mC (.int 2)))) (gT 2 (gsC (gN 2) (gsC (gN 3) gsN))) mYes (mCall phi_tie_of [] (mCons (mIx (mVar 1) (mVar 2)) (mCons (mIx (mVar 1) (mVar 3)) mNil)))) mNil) kSorted) mNil) kTuple) mNil)))))
noncomputable def phi_renamed_by : Phi := runFn 4 2 (fun i => [0, 1].contains i) m_renamed_by
noncomputable def m_want_names : Vm.Env → Res Fl := (mSeq (mIf (mNot (mB (mCall phi_are_names [] (mCons (mIx (mVar 0) (mC (.int 1))) (mCons (mVar 1) mNil))))) (fun _ => .stuck) mNext) (mRet (mVar 1)))
noncomputable def phi_want_names : Phi := runFn 2 2 (fun i => [0, 1].contains i) m_want_names
noncomputable def m_renamed : Vm.Env → Res Fl := (mSeq (mExpr (mCall phi_want_web [] (mCons (mVar 0) mNil))) (mRet (mCall phi_renamed_by [] (mCons (mVar 0) (mCons (mCall phi_want_names [] (mCons (mVar 0) (mCons (mVar 1) mNil))) mNil)))))
noncomputable def phi_renamed : Phi := runFn 2 2 (fun i => [0, 1].contains i) m_renamed
noncomputable def m_round_around : Vm.Env → Res Fl := (mSeq (mAsg (mLst mNil) (gN 2)) (mSeq (mFor (mSrc (mVar 0)) (gN 3) (mIf (mTs (fIn false) (mVar 1) (mVar 3)) (mSeq (mAsg (mFind false (mVar 3) (mCons (mVar 1) mNil)) (gN 4)) (mExpr (mMut mkAppend (pN 2) (mCons (mTup (mCons (mIx (mVar 3) (mOp fSub (mVar 4) (mC (.int 1)))) (mCons (mIx (mVar 3) (mOp fMod (mAdd (mVar 4) (mC (.int 1))) (mA (mCons (mVar 3) mNil) kLen))) mNil))) mNil)))) mNext)) (mSeq (mAsg (mA (mCons (mLc [7] (mSrc (mVar 2)) (gN 7) mYes (mA (mCons (mVar 7) mNil) (kBest false))) mNil) (kBest false)) (gN 5)) (mSeq (mAsg (mLst (mCons (mVar 5) (mCons (mA (mCons (mLc [7] (mSrc (mVar 2)) (gN 7) (mTs (fIn false) (mVar 5) (mVar 7)) (mOp fSub (mA (mCons (mVar 7) mNil) (k1D fSum)) (mVar 5))) mNil) (kBest false)) mNil))) (gN 6)) (mSeq (mWhile (mTs fLt (mA (mCons (mVar 6) mNil) kLen) (mA (mCons (mVar 2) mNil) kLen)) (mExpr (mMut mkAppend (pN 6) (mCons (mIx (mLc [7] (mSrc (mVar 2)) (gN 7) (mAnd (mTs (fIn false) (mIx (mVar 6) (mUn fNeg (mC (.int 1)))) (mVar 7)) (mTs (fIn true) (mIx (mVar 6) (mUn fNeg (mC (.int 2)))) (mVar 7))) (mOp fSub (mA (mCons (mVar 7) mNil) (k1D fSum)) (mIx (mVar 6) (mUn fNeg (mC (.int 1)))))) (mC (.int 0))) mNil)))) (mRet (mA (mCons (mVar 6) mNil) kTuple)))))))
noncomputable def phi_round_around : Phi := runFn 8 2 (fun i => [0, 1].contains i) m_round_around
noncomputable def m_whole_faces : Vm.Env → Res Fl := (mRet (mA (mCons (mAdd (mA (mCons (mIx (mVar 0) (mC (.int 2))) mNil) kList) (mLc [1] (mSrc (mCall phi_rim_ties [] (mCons (mIx (mVar 0) (mC (.int 2))) mNil))) (gN 1) mYes (mAdd (mVar 1) (mTup (mCons (mIx (mVar 0) (mC (.int 1))) mNil))))) mNil) kSorted))
noncomputable def phi_whole_faces : Phi := runFn 2 1 (fun i => [0].contains i) m_whole_faces
noncomputable def m_rim_of : Vm.Env → Res Fl := (mRet (mCall phi_round_around [] (mCons (mCall phi_whole_faces [] (mCons (mVar 0) mNil)) (mCons (mIx (mVar 0) (mC (.int 1))) mNil))))
noncomputable def phi_rim_of : Phi := runFn 1 1 (fun i => [0].contains i) m_rim_of
noncomputable def m_rounds_of : Vm.Env → Res Fl := (mSeq (mAsgT 2 (mCons (mCall phi_beside_of [] (mCons (mVar 0) mNil)) (mCons (mLst (mCons (mTup (mCons (mC (.int 0)) mNil)) mNil)) mNil)) (gsC (gN 1) (gsC (gN 2) gsN))) (mSeq (mFor (mRng1 (mCons (mOp fSub (mIx (mVar 0) (mC (.int 1))) (mC (.int 1))) mNil)) (gN 3) (mSeq (mAsg (mLst mNil) (gN 4)) (mSeq (mFor (mSrc (mVar 2)) (gN 5) (mExpr (mMut mkExtend (pN 4) (mCons (mLc [6] (mSrc (mIx (mVar 1) (mIx (mVar 5) (mUn fNeg (mC (.int 1)))))) (gN 6) (mTs (fIn true) (mVar 6) (mVar 5)) (mAdd (mVar 5) (mTup (mCons (mVar 6) mNil)))) mNil)))) (mAsg (mVar 4) (gN 2))))) (mRet (mLc [5] (mSrc (mVar 2)) (gN 5) (mAnd (mTs fLt (mIx (mVar 5) (mC (.int 1))) (mIx (mVar 5) (mUn fNeg (mC (.int 1))))) (mTs (fIn false) (mC (.int 0)) (mIx (mVar 1) (mIx (mVar 5) (mUn fNeg (mC (.int 1))))))) (mVar 5)))))
noncomputable def phi_rounds_of : Phi := runFn 7 1 (fun i => [0].contains i) m_rounds_of
noncomputable def m_said : Vm.Env → Res Fl := (mRet (mIf (mTs (fIn false) (mIx (mVar 0) (mC (.int 0))) (mTup (mCons (mC (.str "weights")) (mCons (mC (.str "names")) mNil)))) (mC (.str "yes")) (mC (.str "no"))))
noncomputable def phi_said : Phi := runFn 1 1 (fun i => [0].contains i) m_said
noncomputable def m_side : Vm.Env → Res Fl := (mSeq (mFor (mSrc (mTup (mCons (mVar 0) (mCons (mVar 1) (mCons (mVar 2) (mCons (mVar 3) mNil)))))) (gN 4) (mExpr (mCall phi_want_point [] (mCons (mVar 4) mNil)))) (mRet (mCall phi_side_of [] (mCons (mVar 0) (mCons (mVar 1) (mCons (mVar 2) (mCons (mVar 3) mNil)))))))
noncomputable def phi_side : Phi := runFn 5 4 (fun i => [0, 1, 2, 3].contains i) m_side
noncomputable def m_signs_of : Vm.Env → Res Fl := (mSeq (mPar [1, 2] (mCons (mMul (mLst (mCons (mC .none) mNil)) (mIx (mVar 0) (mC (.int 1)))) (mCons (mCall phi_beside_of [] (mCons (mVar 0) mNil)) mNil))) (mSeq (mFor (mRng1 (mCons (mIx (mVar 0) (mC (.int 1))) mNil)) (gN 3) (mSeq (mAsg (mIf (toT (mUn (fNo id) (mIx (mVar 1) (mVar 3)))) (mLst (mCons (mVar 3) mNil)) (mLst mNil)) (gN 4)) (mSeq (mIf (mTs fNe (mVar 4) (mLst mNil)) (mAsg (mTup (mCons (mVar 3) (mCons (mC (.int 1)) mNil))) (gIx (pN 1) (mVar 3))) mNext) (mWhile (mTs fNe (mVar 4) (mLst mNil)) (mSeq (mAsg (mMut mkPop0 (pN 4) mNil) (gN 5)) (mFor (mSrc (mIx (mVar 2) (mVar 5))) (gN 6) (mIf (toT (mUn (fNo id) (mIx (mVar 1) (mVar 6)))) (mSeq (mAsg (mTup (mCons (mVar 3) (mCons (mOp fSub (mC (.int 0)) (mIx (mIx (mVar 1) (mVar 5)) (mC (.int 1)))) mNil))) (gIx (pN 1) (mVar 6))) (mExpr (mMut mkAppend (pN 4) (mCons (mVar 6) mNil)))) mNext))))))) (mRet (mVar 1))))
noncomputable def phi_signs_of : Phi := runFn 7 1 (fun i => [0].contains i) m_signs_of
noncomputable def m_sine_floor : Vm.Env → Res Fl := (mSeq (mExpr (mCall phi_want_share [] (mCons (mVar 0) mNil))) (mSeq (mExpr (mCall phi_want_many [.d (.int 0)] (mCons (mVar 1) (mCons (mC (.int 200)) mNil)))) (mSeq (mIf (mTs (fIn false) (mVar 0) (mTup (mCons (mTup (mCons (mC (.int 0)) (mCons (mC (.int 1)) mNil))) (mCons (mTup (mCons (mC (.int 1)) (mCons (mC (.int 1)) mNil))) (mCons (mTup (mCons (mC (.int 1)) (mCons (mC (.int 2)) mNil))) mNil))))) (mRet (mOp fShl (mA (mCons (mOp fEq (mVar 0) (mTup (mCons (mC (.int 1)) (mCons (mC (.int 2)) mNil)))) mNil) (kScA fInt)) (mVar 1))) mNext) (mSeq (mIf (mTs (fIn false) (mVar 0) (mTup (mCons (mTup (mCons (mC (.int 1)) (mCons (mC (.int 6)) mNil))) (mCons (mTup (mCons (mC (.int 5)) (mCons (mC (.int 6)) mNil))) mNil)))) (mRet (mOp fDiv (mOp fShl (mC (.int 1)) (mVar 1)) (mC (.int 2)))) mNext) (mRet (mCall phi_wave_found [] (mCons (mVar 0) (mCons (mVar 1) (mCons (mC (.bool true)) mNil)))))))))
noncomputable def phi_sine_floor : Phi := runFn 2 2 (fun i => [0, 1].contains i) m_sine_floor
noncomputable def m_solved_steps : Vm.Env → Res Fl := (mSeq (mAsg (mOp fSub (mA (mCons (mVar 0) mNil) kLen) (mC (.int 1))) (gN 3)) (mSeq (mAsg (mLc [5] (mRng1 (mCons (mVar 3) mNil)) (gN 5) mYes (mAdd (mSlc (mIx (mVar 0) (mVar 5)) mOn (mOs (mVar 3))) (mLst (mCons (mIx (mVar 1) (mVar 5)) mNil)))) (gN 4)) (mSeq (mFor (mRng1 (mCons (mVar 3) mNil)) (gN 5) (mSeq (mAsg (mIx (mVar 4) (mVar 5)) (gN 6)) (mFor (mRng2 (mCons (mAdd (mVar 5) (mC (.int 1))) (mCons (mVar 3) mNil))) (gN 7) (mSeq (mAsg (mOp fDiv (mOp fShl (mIx (mIx (mVar 4) (mVar 7)) (mVar 5)) (mVar 2)) (mIx (mVar 6) (mVar 5))) (gN 8)) (mIf (mTs fNe (mVar 8) (mC (.int 0))) (mAsg (mLc [11, 12] (mZip (mCons (mIx (mVar 4) (mVar 7)) (mCons (mVar 6) mNil))) (gT 2 (gsC (gN 11) (gsC (gN 12) gsN))) mYes (mOp fSub (mVar 11) (mOp fShr (mMul (mVar 8) (mVar 12)) (mVar 2)))) (gIx (pN 4) (mVar 7))) mNext))))) (mSeq (mAsg (mMul (mLst (mCons (mC (.int 0)) mNil)) (mAdd (mVar 3) (mC (.int 1)))) (gN 9)) (mSeq (mFor (mRng3 (mCons (mOp fSub (mVar 3) (mC (.int 1))) (mCons (mUn fNeg (mC (.int 1))) (mCons (mUn fNeg (mC (.int 1))) mNil)))) (gN 5) (mSeq (mAsg (mOp fSub (mIx (mIx (mVar 4) (mVar 5)) (mVar 3)) (mA (mCons (mLc [7] (mRng2 (mCons (mAdd (mVar 5) (mC (.int 1))) (mCons (mVar 3) mNil))) (gN 7) mYes (mOp fShr (mMul (mIx (mIx (mVar 4) (mVar 5)) (mVar 7)) (mIx (mVar 9) (mVar 7))) (mVar 2))) mNil) (k1D fSum))) (gN 10)) (mAsg (mOp fDiv (mOp fShl (mVar 10) (mVar 2)) (mIx (mIx (mVar 4) (mVar 5)) (mVar 5))) (gIx (pN 9) (mVar 5))))) (mRet (mVar 9)))))))
noncomputable def phi_solved_steps : Phi := runFn 13 3 (fun i => [0, 1, 2].contains i) m_solved_steps
noncomputable def m_sum_across : Vm.Env → Res Fl := (mSeq (mExpr (mCall phi_want_web [] (mCons (mVar 0) mNil))) (mSeq (mAsg (mCall phi_same_under [] (mCons (mCall phi_want_row [] (mCons (mVar 0) (mCons (mVar 1) mNil))) mNil)) (gT 2 (gsC (gN 3) (gsC (gN 4) gsN)))) (mRet (mCall phi_bare_ratio [] (mCons (mA (mCons (mLc [5] (mSrc (mCall phi_across_of [] (mCons (mVar 0) (mCons (mCall phi_want_cut [] (mCons (mVar 0) (mCons (mVar 2) mNil))) mNil)))) (gN 5) mYes (mIx (mVar 3) (mVar 5))) mNil) (k1D fSum)) (mCons (mVar 4) mNil))))))
noncomputable def phi_sum_across : Phi := runFn 6 3 (fun i => [0, 1, 2].contains i) m_sum_across
noncomputable def m_sum_at : Vm.Env → Res Fl := (mSeq (mExpr (mCall phi_want_web [] (mCons (mVar 0) mNil))) (mSeq (mAsg (mCall phi_same_under [] (mCons (mCall phi_want_row [] (mCons (mVar 0) (mCons (mVar 1) mNil))) mNil)) (gT 2 (gsC (gN 3) (gsC (gN 4) gsN)))) (mRet (mCall phi_bare_ratio [] (mCons (mCall phi_at_of [] (mCons (mVar 0) (mCons (mVar 3) (mCons (mCall phi_want_corner [] (mCons (mVar 0) (mCons (mVar 2) mNil))) mNil)))) (mCons (mVar 4) mNil))))))
noncomputable def phi_sum_at : Phi := runFn 5 3 (fun i => [0, 1, 2].contains i) m_sum_at
noncomputable def m_surplus_of : Vm.Env → Res Fl := (mSeq (mAsg (mCall phi_same_under [] (mCons (mVar 1) mNil)) (gT 2 (gsC (gN 2) (gsC (gN 3) gsN)))) (mRet (mCall phi_bare_ratio [] (mCons (mA (mCons (mA (mCons (mVar 2) mNil) (kBest false)) (mCons (mOp fSub (mIx (mCall phi_cut_least [] (mCons (mVar 0) (mCons (mVar 2) mNil))) (mC (.int 0))) (mVar 3)) mNil)) (kScA fMin2)) (mCons (mVar 3) mNil)))))
noncomputable def phi_surplus_of : Phi := runFn 4 2 (fun i => [0, 1].contains i) m_surplus_of
noncomputable def m_surplus : Vm.Env → Res Fl := (mSeq (mExpr (mCall phi_want_web [] (mCons (mVar 0) mNil))) (mRet (mCall phi_surplus_of [] (mCons (mVar 0) (mCons (mCall phi_want_balanced [] (mCons (mVar 0) (mCons (mVar 1) mNil))) mNil)))))
noncomputable def phi_surplus : Phi := runFn 2 2 (fun i => [0, 1].contains i) m_surplus
noncomputable def m_tie_position : Vm.Env → Res Fl := (mSeq (mIf (mNot (mB (mCall phi_is_tied [] (mCons (mVar 0) (mCons (mVar 1) (mCons (mVar 2) mNil)))))) (fun _ => .stuck) mNext) (mRet (mFind false (mIx (mVar 0) (mC (.int 2))) (mCons (mCall phi_tie_of [] (mCons (mVar 1) (mCons (mVar 2) mNil))) mNil))))
noncomputable def phi_tie_position : Phi := runFn 3 3 (fun i => [0, 1, 2].contains i) m_tie_position
noncomputable def m_ties_along : Vm.Env → Res Fl := (mRet (mLc [1, 2] (mZip (mCons (mVar 0) (mCons (mSlc (mVar 0) (mOs (mC (.int 1))) mOn) mNil))) (gT 2 (gsC (gN 1) (gsC (gN 2) gsN))) mYes (mCall phi_tie_of [] (mCons (mVar 1) (mCons (mVar 2) mNil)))))
noncomputable def phi_ties_along : Phi := runFn 3 1 (fun i => [0].contains i) m_ties_along
noncomputable def m_twin : Vm.Env → Res Fl := (mSeq (mExpr (mCall phi_want_many [] (mCons (mVar 0) (mCons (mC (.int 10)) (mCons (mC (.int 3)) mNil))))) (mSeq (mAsg (mAdd (mCall phi_round_ties [] (mCons (mC (.int 0)) (mCons (mVar 0) mNil))) (mLc [2] (mRng1 (mCons (mVar 0) mNil)) (gN 2) mYes (mTup (mCons (mVar 2) (mCons (mVar 0) mNil))))) (gN 1)) (mRet (mCall phi_web_of [] (mCons (mAdd (mVar 0) (mC (.int 2))) (mCons (mAdd (mVar 1) (mLc [2] (mRng1 (mCons (mVar 0) mNil)) (gN 2) mYes (mTup (mCons (mVar 2) (mCons (mAdd (mVar 0) (mC (.int 1))) mNil))))) mNil))))))
noncomputable def phi_twin : Phi := runFn 3 1 (fun i => [0].contains i) m_twin
noncomputable def m_twin_corners : Vm.Env → Res Fl := (mRet (mA (mCons (mAdd (mCall phi_equator_points [] (mCons (mCall phi_round_directions [] (mCons (mCall phi_want_many [] (mCons (mVar 0) (mCons (mC (.int 10)) (mCons (mC (.int 3)) mNil)))) mNil)) mNil)) (mLst (mCons (mC (.tuple [.int 0, .int 0, .int 1, .int 1])) (mCons (mC (.tuple [.int 0, .int 0, .int (-1), .int 1])) mNil)))) mNil) kTuple))
noncomputable def phi_twin_corners : Phi := runFn 1 1 (fun i => [0].contains i) m_twin_corners
noncomputable def m_uneven_lot : Vm.Env → Res Fl := (mSeq (mAsg (mCall phi_signs_of [] (mCons (mVar 0) mNil)) (gN 1)) (mSeq (mAsg (mLc [6, 7] (mSrc (mIx (mVar 0) (mC (.int 2)))) (gT 2 (gsC (gN 6) (gsC (gN 7) gsN))) (mTs fEq (mIx (mIx (mVar 1) (mVar 6)) (mC (.int 1))) (mIx (mIx (mVar 1) (mVar 7)) (mC (.int 1)))) (mIx (mIx (mVar 1) (mVar 6)) (mC (.int 0)))) (gN 2)) (mSeq (mFor (mRng1 (mCons (mIx (mVar 0) (mC (.int 1))) mNil)) (gN 3) (mSeq (mAsg (mLc [8] (mSrc (mVar 1)) (gN 8) mYes (mIf (mTs fEq (mIx (mVar 8) (mC (.int 0))) (mVar 3)) (mIx (mVar 8) (mC (.int 1))) (mC (.int 0)))) (gN 4)) (mIf (mAnd (mTs (fIn true) (mVar 3) (mVar 2)) (mTs fNe (mA (mCons (mVar 4) mNil) (k1D fSum)) (mC (.int 0)))) (mSeq (mAsg (mIf (mTs fLt (mA (mCons (mVar 4) mNil) (k1D fSum)) (mC (.int 0))) (mC (.int 1)) (mUn fNeg (mC (.int 1)))) (gN 5)) (mRet (mTup (mCons (mC (.str "lot")) (mCons (mA (mCons (mLc [6] (mSrc (mVar 4)) (gN 6) mYes (mMul (mVar 5) (mVar 6))) mNil) kTuple) (mCons (mTup mNil) mNil)))))) mNext))) (mRet (mC .none)))))
noncomputable def phi_uneven_lot : Phi := runFn 9 1 (fun i => [0].contains i) m_uneven_lot
noncomputable def m_want_face : Vm.Env → Res Fl := (mSeq (mIf (mNot (mB (mCall phi_is_face_among [] (mCons (mVar 0) (mCons (mVar 1) mNil))))) (fun _ => .stuck) mNext) (mRet (mVar 1)))
noncomputable def phi_want_face : Phi := runFn 2 2 (fun i => [0, 1].contains i) m_want_face
noncomputable def m_want_text : Vm.Env → Res Fl := (mSeq (mIf (mNot (mB (mA (mCons (mVar 0) (mCons (mU (.raw (.ty "str"))) mNil)) (kIsi "str")))) (fun _ => .stuck) mNext) (mRet (mVar 0)))
noncomputable def phi_want_text : Phi := runFn 1 1 (fun i => [0].contains i) m_want_text
noncomputable def m_way_through : Vm.Env → Res Fl := (mSeq (mPar [4, 5, 6] (mCons (mLst (mCons (mTup (mCons (mVar 1) mNil)) mNil)) (mCons (mLst mNil) (mCons (mC (.int 0)) mNil)))) (mSeq (mWhile (mTs fLt (mVar 6) (mA (mCons (mVar 4) mNil) kLen)) (mSeq (mPar [7, 6] (mCons (mIx (mVar 4) (mVar 6)) (mCons (mAdd (mVar 6) (mC (.int 1))) mNil))) (mFor (mSrc (mIx (mVar 0) (mIx (mVar 7) (mUn fNeg (mC (.int 1)))))) (gN 8) (mSeq (mIf (mAnd (mTs fGt (mA (mCons (mVar 7) mNil) kLen) (mC (.int 1))) (mTs (fIn false) (mVar 8) (mVar 2))) (mRet (mAdd (mVar 7) (mTup (mCons (mVar 8) mNil)))) mNext) (mIf (mAnd (mTs (fIn false) (mVar 8) (mVar 3)) (mTs (fIn true) (mVar 8) (mVar 5))) (mSeq (mExpr (mMut mkAppend (pN 5) (mCons (mVar 8) mNil))) (mExpr (mMut mkAppend (pN 4) (mCons (mAdd (mVar 7) (mTup (mCons (mVar 8) mNil))) mNil)))) mNext))))) (mRet (mC .none))))
noncomputable def phi_way_through : Phi := runFn 9 4 (fun i => [0, 1, 2, 3].contains i) m_way_through
noncomputable def m_web_made : Vm.Env → Res Fl := (mSeq (mExpr (mCall phi_want_many [] (mCons (mVar 0) (mCons (mC (.int 12)) (mCons (mC (.int 4)) mNil))))) (mSeq (mIf (mOr (mNot (mB (mIsi2 "list" "tuple" (mVar 1)))) (mNot (mB (mA (mCons (mLc [6] (mSrc (mVar 1)) (gN 6) mYes (mCall phi_is_pair_below [] (mCons (mVar 6) (mCons (mVar 0) mNil)))) mNil) (k1D fAll))))) (fun _ => .stuck) mNext) (mSeq (mAsg (mLst mNil) (gN 2)) (mSeq (mFor (mSrc (mA (mCons (mLc [4, 5] (mSrc (mVar 1)) (gT 2 (gsC (gN 4) (gsC (gN 5) gsN))) mYes (mCall phi_tie_of [] (mCons (mVar 4) (mCons (mVar 5) mNil)))) mNil) kSorted)) (gN 3) (mIf (mOr (mTs fEq (mVar 2) (mLst mNil)) (mTs fNe (mIx (mVar 2) (mUn fNeg (mC (.int 1)))) (mVar 3))) (mExpr (mMut mkAppend (pN 2) (mCons (mVar 3) mNil))) mNext)) (mRet (mTup (mCons (mC (.str "web")) (mCons (mVar 0) (mCons (mA (mCons (mVar 2) mNil) kTuple) mNil)))))))))
noncomputable def phi_web_made : Phi := runFn 7 2 (fun i => [0, 1].contains i) m_web_made
noncomputable def m_whole_rounds : Vm.Env → Res Fl := (mSeq (mExpr (mCall phi_want_web [] (mCons (mVar 0) mNil))) (mSeq (mExpr (mCall phi_want_at_most [] (mCons (mC (.str "corners")) (mCons (mC (.int 9)) (mCons (mIx (mVar 0) (mC (.int 1))) mNil))))) (mRet (mCall phi_rounds_of [] (mCons (mVar 0) mNil)))))
noncomputable def phi_whole_rounds : Phi := runFn 1 1 (fun i => [0].contains i) m_whole_rounds
noncomputable def m_with_tie : Vm.Env → Res Fl := (mSeq (mExpr (mCall phi_want_web [] (mCons (mVar 0) mNil))) (mSeq (mExpr (mCall phi_want_corner [] (mCons (mVar 0) (mCons (mVar 1) mNil)))) (mSeq (mExpr (mCall phi_want_corner [] (mCons (mVar 0) (mCons (mVar 2) mNil)))) (mSeq (mIf (mTs fEq (mVar 2) (mVar 1)) (fun _ => .stuck) mNext) (mSeq (mIf (mTs (fIn false) (mCall phi_tie_of [] (mCons (mVar 1) (mCons (mVar 2) mNil))) (mIx (mVar 0) (mC (.int 2)))) (fun _ => .stuck) mNext) (mRet (mCall phi_web_of [] (mCons (mIx (mVar 0) (mC (.int 1))) (mCons (mAdd (mA (mCons (mIx (mVar 0) (mC (.int 2))) mNil) kList) (mLst (mCons (mCall phi_tie_of [] (mCons (mVar 1) (mCons (mVar 2) mNil))) mNil))) mNil)))))))))
noncomputable def phi_with_tie : Phi := runFn 3 3 (fun i => [0, 1, 2].contains i) m_with_tie
noncomputable def m_without_tie : Vm.Env → Res Fl := (mSeq (mExpr (mCall phi_want_web [] (mCons (mVar 0) mNil))) (mSeq (mIf (mNot (mB (mCall phi_is_from_to [] (mCons (mVar 1) (mCons (mC (.int 0)) (mCons (mOp fSub (mA (mCons (mIx (mVar 0) (mC (.int 2))) mNil) kLen) (mC (.int 1))) mNil)))))) (fun _ => .stuck) mNext) (mRet (mTup (mCons (mC (.str "web")) (mCons (mIx (mVar 0) (mC (.int 1))) (mCons (mAdd (mSlc (mIx (mVar 0) (mC (.int 2))) mOn (mOs (mVar 1))) (mSlc (mIx (mVar 0) (mC (.int 2))) (mOs (mAdd (mVar 1) (mC (.int 1)))) mOn)) mNil)))))))
noncomputable def phi_without_tie : Phi := runFn 2 2 (fun i => [0, 1].contains i) m_without_tie
end PG
end
section
set_option Elab.async false
set_option linter.all false
set_option maxRecDepth 100000

namespace K33
open PySem L2 PySem.W Vm PG
def top (i : Nat) : Stmt := PySem.Challenge.pw_ballcorners_k33_whole_all_cuts.main.body.getD i (.Pass ⟨0, 0, 0, 0⟩)
abbrev s__law_cuts : Stmt := top 31
abbrev s__law_draw : Stmt := top 29
abbrev s__law_across : Stmt := top 32
abbrev s__law_drawn_lot : Stmt := top 33
abbrev s_across_of : Stmt := top 21
abbrev s_is_integer : Stmt := top 7
abbrev s_is_from_to : Stmt := top 9
abbrev s_is_wide : Stmt := top 19
abbrev s_is_cut_of : Stmt := top 20
abbrev s_want_cut : Stmt := top 23
abbrev s_is_count : Stmt := top 8
abbrev s_is_pair_below : Stmt := top 14
abbrev s_is_web : Stmt := top 15
abbrev s_want_web : Stmt := top 16
abbrev s_across : Stmt := top 25
abbrev s_is_cut : Stmt := top 24
abbrev s__law_one_right : Stmt := top 34
abbrev s__law_pot : Stmt := top 28
abbrev s__law_web : Stmt := top 30
abbrev s_first_lots : Stmt := top 22
abbrev s_want_at_most : Stmt := top 10
abbrev s_all_cuts : Stmt := top 26
abbrev s_law : Stmt := top 35
/-- what the top leaves, by names -/
structure Fx (K : Frag) (mg : Str → Option Value) where
  n_abs : mg "abs" = none
  n_all : mg "all" = none
  n_bool : mg "bool" = none
  n_divmod : mg "divmod" = none
  n_enumerate : mg "enumerate" = none
  n_int : mg "int" = none
  n_isinstance : mg "isinstance" = none
  n_len : mg "len" = none
  n_list : mg "list" = none
  n_max : mg "max" = none
  n_range : mg "range" = none
  n_repr : mg "repr" = none
  n_sorted : mg "sorted" = none
  n_str : mg "str" = none
  n_tuple : mg "tuple" = none
  n_zip : mg "zip" = none
  c_LEAST_CORNERS : ∃ t, mg "LEAST_CORNERS" = some (.int 4 t)
  c_MOST_CORNERS : ∃ t, mg "MOST_CORNERS" = some (.int 12 t)
  c_MOST_LISTED : ∃ t, mg "MOST_LISTED" = some (.int 8 t)
  f__law_cuts : Addr
  fd__law_cuts : FuncData
  D__law_cuts : FunD K "_law_cuts" "_law_cuts" (defArgs s__law_cuts) (defBody s__law_cuts) (defScope s__law_cuts) [] [] f__law_cuts fd__law_cuts
  g__law_cuts : mg "_law_cuts" = some (.ref f__law_cuts)
  f__law_draw : Addr
  fd__law_draw : FuncData
  D__law_draw : FunD K "_law_draw" "_law_draw" (defArgs s__law_draw) (defBody s__law_draw) (defScope s__law_draw) [] [] f__law_draw fd__law_draw
  g__law_draw : mg "_law_draw" = some (.ref f__law_draw)
  f__law_across : Addr
  fd__law_across : FuncData
  D__law_across : FunD K "_law_across" "_law_across" (defArgs s__law_across) (defBody s__law_across) (defScope s__law_across) [] [] f__law_across fd__law_across
  g__law_across : mg "_law_across" = some (.ref f__law_across)
  f__law_drawn_lot : Addr
  fd__law_drawn_lot : FuncData
  D__law_drawn_lot : FunD K "_law_drawn_lot" "_law_drawn_lot" (defArgs s__law_drawn_lot) (defBody s__law_drawn_lot) (defScope s__law_drawn_lot) [] [] f__law_drawn_lot fd__law_drawn_lot
  g__law_drawn_lot : mg "_law_drawn_lot" = some (.ref f__law_drawn_lot)
  f_across_of : Addr
  fd_across_of : FuncData
  D_across_of : FunD K "across_of" "across_of" (defArgs s_across_of) (defBody s_across_of) (defScope s_across_of) [] [] f_across_of fd_across_of
  g_across_of : mg "across_of" = some (.ref f_across_of)
  f_is_integer : Addr
  fd_is_integer : FuncData
  D_is_integer : FunD K "is_integer" "is_integer" (defArgs s_is_integer) (defBody s_is_integer) (defScope s_is_integer) [] [] f_is_integer fd_is_integer
  g_is_integer : mg "is_integer" = some (.ref f_is_integer)
  f_is_from_to : Addr
  fd_is_from_to : FuncData
  D_is_from_to : FunD K "is_from_to" "is_from_to" (defArgs s_is_from_to) (defBody s_is_from_to) (defScope s_is_from_to) [] [] f_is_from_to fd_is_from_to
  g_is_from_to : mg "is_from_to" = some (.ref f_is_from_to)
  f_is_wide : Addr
  fd_is_wide : FuncData
  D_is_wide : FunD K "is_wide" "is_wide" (defArgs s_is_wide) (defBody s_is_wide) (defScope s_is_wide) [] [] f_is_wide fd_is_wide
  g_is_wide : mg "is_wide" = some (.ref f_is_wide)
  f_is_cut_of : Addr
  fd_is_cut_of : FuncData
  D_is_cut_of : FunD K "is_cut_of" "is_cut_of" (defArgs s_is_cut_of) (defBody s_is_cut_of) (defScope s_is_cut_of) [] [] f_is_cut_of fd_is_cut_of
  g_is_cut_of : mg "is_cut_of" = some (.ref f_is_cut_of)
  f_want_cut : Addr
  fd_want_cut : FuncData
  D_want_cut : FunD K "want_cut" "want_cut" (defArgs s_want_cut) (defBody s_want_cut) (defScope s_want_cut) [] [] f_want_cut fd_want_cut
  g_want_cut : mg "want_cut" = some (.ref f_want_cut)
  f_is_count : Addr
  fd_is_count : FuncData
  D_is_count : FunD K "is_count" "is_count" (defArgs s_is_count) (defBody s_is_count) (defScope s_is_count) [] [] f_is_count fd_is_count
  g_is_count : mg "is_count" = some (.ref f_is_count)
  f_is_pair_below : Addr
  fd_is_pair_below : FuncData
  D_is_pair_below : FunD K "is_pair_below" "is_pair_below" (defArgs s_is_pair_below) (defBody s_is_pair_below) (defScope s_is_pair_below) [] [] f_is_pair_below fd_is_pair_below
  g_is_pair_below : mg "is_pair_below" = some (.ref f_is_pair_below)
  f_is_web : Addr
  fd_is_web : FuncData
  D_is_web : FunD K "is_web" "is_web" (defArgs s_is_web) (defBody s_is_web) (defScope s_is_web) [] [] f_is_web fd_is_web
  g_is_web : mg "is_web" = some (.ref f_is_web)
  f_want_web : Addr
  fd_want_web : FuncData
  D_want_web : FunD K "want_web" "want_web" (defArgs s_want_web) (defBody s_want_web) (defScope s_want_web) [] [] f_want_web fd_want_web
  g_want_web : mg "want_web" = some (.ref f_want_web)
  f_across : Addr
  fd_across : FuncData
  D_across : FunD K "across" "across" (defArgs s_across) (defBody s_across) (defScope s_across) [] [] f_across fd_across
  g_across : mg "across" = some (.ref f_across)
  f_is_cut : Addr
  fd_is_cut : FuncData
  D_is_cut : FunD K "is_cut" "is_cut" (defArgs s_is_cut) (defBody s_is_cut) (defScope s_is_cut) [] [] f_is_cut fd_is_cut
  g_is_cut : mg "is_cut" = some (.ref f_is_cut)
  f__law_one_right : Addr
  fd__law_one_right : FuncData
  D__law_one_right : FunD K "_law_one_right" "_law_one_right" (defArgs s__law_one_right) (defBody s__law_one_right) (defScope s__law_one_right) [] [] f__law_one_right fd__law_one_right
  g__law_one_right : mg "_law_one_right" = some (.ref f__law_one_right)
  f__law_pot : Addr
  fd__law_pot : FuncData
  D__law_pot : FunD K "_law_pot" "_law_pot" (defArgs s__law_pot) (defBody s__law_pot) (defScope s__law_pot) [] [] f__law_pot fd__law_pot
  g__law_pot : mg "_law_pot" = some (.ref f__law_pot)
  f__law_web : Addr
  fd__law_web : FuncData
  D__law_web : FunD K "_law_web" "_law_web" (defArgs s__law_web) (defBody s__law_web) (defScope s__law_web) [] [] f__law_web fd__law_web
  g__law_web : mg "_law_web" = some (.ref f__law_web)
  f_first_lots : Addr
  fd_first_lots : FuncData
  D_first_lots : FunD K "first_lots" "first_lots" (defArgs s_first_lots) (defBody s_first_lots) (defScope s_first_lots) [] [] f_first_lots fd_first_lots
  g_first_lots : mg "first_lots" = some (.ref f_first_lots)
  f_want_at_most : Addr
  fd_want_at_most : FuncData
  D_want_at_most : FunD K "want_at_most" "want_at_most" (defArgs s_want_at_most) (defBody s_want_at_most) (defScope s_want_at_most) [] [] f_want_at_most fd_want_at_most
  g_want_at_most : mg "want_at_most" = some (.ref f_want_at_most)
  f_all_cuts : Addr
  fd_all_cuts : FuncData
  D_all_cuts : FunD K "all_cuts" "all_cuts" (defArgs s_all_cuts) (defBody s_all_cuts) (defScope s_all_cuts) [] [] f_all_cuts fd_all_cuts
  g_all_cuts : mg "all_cuts" = some (.ref f_all_cuts)
  f_law : Addr
  fd_law : FuncData
  D_law : FunD K "law" "law" (defArgs s_law) (defBody s_law) (defScope s_law) [] [] f_law fd_law
  g_law : mg "law" = some (.ref f_law)
section
variable {P : Program} {w : World} {K : Frag} {mg : Str → Option Value} {base : Heap}
/-! _law_cuts -/
noncomputable def m__law_cuts : Vm.Env → Res Fl := (mSeq (mAsg (mLst mNil) (gN 1)) (mSeq (mFor (mRng3 (mCons (mC (.int 1)) (mCons (mOp fShl (mC (.int 1)) (mVar 0)) (mCons (mC (.int 2)) mNil)))) (gN 2) (mSeq (mAsg (mA (mCons (mLc [4] (mRng1 (mCons (mVar 0) mNil)) (gN 4) (mTs fEq (mOp fMod (mOp fShr (mVar 2) (mVar 4)) (mC (.int 2))) (mC (.int 1))) (mVar 4)) mNil) kTuple) (gN 3)) (mIf (toT (mCh fLe fLe (mC (.int 2)) (mA (mCons (mVar 3) mNil) kLen) (mOp fSub (mVar 0) (mC (.int 2))))) (mExpr (mMut mkAppend (pN 1) (mCons (mVar 3) mNil))) mNext))) (mRet (mA (mCons (mVar 1) mNil) kSorted))))
noncomputable def phi__law_cuts : Phi := runFn 5 1 (fun i => [0].contains i) m__law_cuts
theorem sc__law_cuts : FnScope ["corners", "found", "number", "lot", "corner"] ["corners"] (defScope s__law_cuts) := ⟨rfl, rfl, rfl, by decide +kernel, rfl, by decide +kernel, by decide +kernel⟩
theorem b__law_cuts (F : Fx K mg) : Binds K F.fd__law_cuts ["corners"] [] := F.D__law_cuts.bindsN fun _ _ _ _ _ _ us hl => match us, hl with | [_], _ => rfl
theorem ok__law_cuts (F : Fx K mg) : FnG P w K mg base (L2.CX P w) 1 F.f__law_cuts F.fd__law_cuts ["corners"] (spV K 1 phi__law_cuts) := by
  refine fn_okG (k := 0) F.D__law_cuts sc__law_cuts fun cdv A outer s H E ng hr => ?_
  have hu := hr.units
  have sc := sc__law_cuts
  exact (by exact (dss_cons (by exact (ds_set 1 (by exact (de_lst da_nil)) sc.nd)) (by exact (dss_cons (by exact (ds_for (passes_of (by rfl)) (by rfl) (by exact (di_range3 (by rfl) F.n_range (by exact (da_cons de_int (by exact (da_cons (by exact (de_op op_shl od_shl de_int (by exact (de_var 0)))) (by exact (da_cons de_int da_nil)))))))) (by exact (dg_name 2 sc.nd)) (by exact (dss_cons (by exact (ds_set 3 (by exact (de_ct ca_tuple (by rfl) F.n_tuple (by decide +kernel) (by exact (da_cons (by exact (de_lc (by rfl) sc.nd (by exact (di_range1 (by rfl) F.n_range (by exact (da_cons (by exact (de_var 0)) da_nil)))) (own := [("corner", 4)]) (blk_ok (by kernel_rfl)) (fun _ _ _ _ _ => (by exact (dg_name 4 sc.nd))) (fun _ _ _ _ _ => (by exact (dts_one (by exact (dt_cmp (op_eqP hu) od_eq (by rfl) (by exact (de_op op_mod od_mod (by exact (de_op op_shr od_shr (by exact (de_var 2)) (by exact (de_var 4)))) de_int)) de_int))))) (fun _ _ _ _ _ => (by exact (de_var 4))))) da_nil)))) sc.nd)) (by exact (dss_one (by exact (ds_if (by exact (dt_ch (op_leP hu) od_le (op_leP hu) od_le de_int (by exact (de_cb ca_len (by rfl) F.n_len (by decide +kernel) (by exact (da_cons (by exact (de_var 3)) da_nil)))) (by exact (de_op op_subX od_sub (by exact (de_var 0)) de_int)))) (by exact (dss_one (by exact (ds_expr (by exact (de_m1 mu_append PySem.F.slot_list_append PySem.F.type_list_append (by exact (dp_n 1)) (by exact (da_cons (by exact (de_var 3)) da_nil)))))))) dss_nil)))))))) (by exact (dss_one (by exact (ds_ret (by exact (de_cb (ca_sorted hu) (by rfl) F.n_sorted (by decide +kernel) (by exact (da_cons (by exact (de_var 1)) da_nil))))))))))))
/-! _law_draw -/
noncomputable def m__law_draw : Vm.Env → Res Fl := (mSeq (mIf (mTs fGt (mIx (mVar 0) (mC (.int 0))) (mC (.int 0))) (mSeq (mAsg (mA (mCons (mIx (mVar 0) (mC (.int 0))) (mCons (mVar 1) mNil)) kDivmod) (gT 2 (gsC (gIx (pN 0) (mC (.int 0))) (gsC (gN 2) gsN)))) (mRet (mVar 2))) mNext) (mSeq (mAsg (mOp fMod (mA (mCons (mAdd (mMul (mIx (mVar 0) (mC (.int 1))) (mC (.int 40014))) (mC (.int 1109))) mNil) (kScA fInt)) (mC (.int 2147483563))) (gIx (pN 0) (mC (.int 1)))) (mRet (mOp fMod (mA (mCons (mOp fDiv (mOp fMod (mA (mCons (mMul (mIx (mVar 0) (mC (.int 1))) (mIx (mVar 0) (mC (.int 1)))) mNil) (kScA fInt)) (mC (.int 2147483587))) (mC (.int 21))) mNil) (kScA fInt)) (mVar 1)))))
noncomputable def phi__law_draw : Phi := runFn 3 2 (fun i => [0, 1].contains i) m__law_draw
theorem sc__law_draw : FnScope ["pot", "many", "digit"] ["pot", "many"] (defScope s__law_draw) := ⟨rfl, rfl, rfl, by decide +kernel, rfl, by decide +kernel, by decide +kernel⟩
theorem b__law_draw (F : Fx K mg) : Binds K F.fd__law_draw ["pot", "many"] [] := F.D__law_draw.bindsN fun _ _ _ _ _ _ us hl => match us, hl with | [_, _], _ => rfl
theorem ok__law_draw (F : Fx K mg) : FnG P w K mg base (L2.CX P w) 1 F.f__law_draw F.fd__law_draw ["pot", "many"] (spV K 2 phi__law_draw) := by
  refine fn_okG (k := 0) F.D__law_draw sc__law_draw fun cdv A outer s H E ng hr => ?_
  have hu := hr.units
  have sc := sc__law_draw
  exact (by exact (dss_cons (by exact (ds_if (by exact (dt_cmp (op_gtP hu) od_gt (by rfl) (by exact (de_ix (by exact (de_var 0)) de_int)) de_int)) (by exact (dss_cons (by exact (ds_asg (by exact (de_cb ca_divmod (by rfl) F.n_divmod (by decide +kernel) (by exact (da_cons (by exact (de_ix (by exact (de_var 0)) de_int)) (by exact (da_cons (by exact (de_var 1)) da_nil)))))) (by exact (dg_tup (by rfl) (by exact (dgs_cons (by exact (dg_ix (W := fun cls d _ H => E cls d H) (by exact (dp_n 0)) de_int)) (by exact (dgs_cons (by exact (dg_name 2 sc.nd)) dgs_nil)))))))) (by exact (dss_one (by exact (ds_ret (by exact (de_var 2)))))))) dss_nil)) (by exact (dss_cons (by exact (ds_asg (by exact (de_op op_mod od_mod (by exact (de_ct ca_int (by rfl) F.n_int (by decide +kernel) (by exact (da_cons (by exact (de_add (by exact (de_mul (by exact (de_ix (by exact (de_var 0)) de_int)) de_int)) de_int)) da_nil)))) de_int)) (by exact (dg_ix (W := fun cls d _ H => E cls d H) (by exact (dp_n 0)) de_int)))) (by exact (dss_one (by exact (ds_ret (by exact (de_op op_mod od_mod (by exact (de_ct ca_int (by rfl) F.n_int (by decide +kernel) (by exact (da_cons (by exact (de_op op_fdivF od_div (by exact (de_op op_mod od_mod (by exact (de_ct ca_int (by rfl) F.n_int (by decide +kernel) (by exact (da_cons (by exact (de_mul (by exact (de_ix (by exact (de_var 0)) de_int)) (by exact (de_ix (by exact (de_var 0)) de_int)))) da_nil)))) de_int)) de_int)) da_nil)))) (by exact (de_var 1))))))))))))
/-! _law_across -/
noncomputable def m__law_across : Vm.Env → Res Fl := (mRet (mLc [2, 3] (mEnum (mCons (mIx (mVar 0) (mC (.int 2))) mNil)) (gT 2 (gsC (gN 2) (gsC (gN 3) gsN))) (mTs fNe (mOp (fIn false) (mIx (mVar 3) (mC (.int 0))) (mVar 1)) (mOp (fIn false) (mIx (mVar 3) (mC (.int 1))) (mVar 1))) (mVar 2)))
noncomputable def phi__law_across : Phi := runFn 4 2 (fun i => [0, 1].contains i) m__law_across
theorem sc__law_across : FnScope ["web", "lot", "at", "tie"] ["web", "lot"] (defScope s__law_across) := ⟨rfl, rfl, rfl, by decide +kernel, rfl, by decide +kernel, by decide +kernel⟩
theorem b__law_across (F : Fx K mg) : Binds K F.fd__law_across ["web", "lot"] [] := F.D__law_across.bindsN fun _ _ _ _ _ _ us hl => match us, hl with | [_, _], _ => rfl
theorem ok__law_across (F : Fx K mg) : FnG P w K mg base (L2.CX P w) 1 F.f__law_across F.fd__law_across ["web", "lot"] (spV K 2 phi__law_across) := by
  refine fn_okG (k := 0) F.D__law_across sc__law_across fun cdv A outer s H E ng hr => ?_
  have hu := hr.units
  have sc := sc__law_across
  exact (by exact (dss_one (by exact (ds_ret (by exact (de_lc (by rfl) sc.nd (by exact (di_enum (by rfl) F.n_enumerate (by exact (da_cons (by exact (de_ix (by exact (de_var 0)) de_int)) da_nil)))) (own := [("at", 2), ("tie", 3)]) (blk_ok (by kernel_rfl)) (fun _ _ _ _ _ => (by exact (dg_tup (by rfl) (by exact (dgs_cons (by exact (dg_name 2 sc.nd)) (by exact (dgs_cons (by exact (dg_name 3 sc.nd)) dgs_nil))))))) (fun _ _ _ _ _ => (by exact (dts_one (by exact (dt_cmp (op_neP hu) od_ne (by rfl) (by exact (de_cmp (op_inP hu) (od_in false) (by rfl) (by exact (de_ix (by exact (de_var 3)) de_int)) (by exact (de_var 1)))) (by exact (de_cmp (op_inP hu) (od_in false) (by rfl) (by exact (de_ix (by exact (de_var 3)) de_int)) (by exact (de_var 1))))))))) (fun _ _ _ _ _ => (by exact (de_var 2)))))))))
/-! _law_drawn_lot -/
noncomputable def m__law_drawn_lot : Vm.Env → Res Fl := (mSeq (mAsg (mLc [3] (mRng1 (mCons (mVar 1) mNil)) (gN 3) (mTs fEq (mCall phi__law_draw [] (mCons (mVar 0) (mCons (mC (.int 2)) mNil))) (mC (.int 0))) (mVar 3)) (gN 2)) (mRet (mA (mCons (mVar 2) mNil) kTuple)))
noncomputable def phi__law_drawn_lot : Phi := runFn 4 2 (fun i => [0, 1].contains i) m__law_drawn_lot
theorem sc__law_drawn_lot : FnScope ["pot", "corners", "lot", "corner"] ["pot", "corners"] (defScope s__law_drawn_lot) := ⟨rfl, rfl, rfl, by decide +kernel, rfl, by decide +kernel, by decide +kernel⟩
theorem b__law_drawn_lot (F : Fx K mg) : Binds K F.fd__law_drawn_lot ["pot", "corners"] [] := F.D__law_drawn_lot.bindsN fun _ _ _ _ _ _ us hl => match us, hl with | [_, _], _ => rfl
theorem ok__law_drawn_lot (F : Fx K mg) : FnG P w K mg base (L2.CX P w) 2 F.f__law_drawn_lot F.fd__law_drawn_lot ["pot", "corners"] (spV K 2 phi__law_drawn_lot) := by
  refine fn_okG (k := 1) F.D__law_drawn_lot sc__law_drawn_lot fun cdv A outer s H E ng hr => ?_
  have hu := hr.units
  have sc := sc__law_drawn_lot
  exact (by exact (dss_cons (by exact (ds_setLc 2 (by rfl) sc.nd (by rfl) (by exact (di_range1 (by rfl) F.n_range (by exact (da_cons (by exact (de_var 1)) da_nil)))) (own := [("corner", 3)]) (blk_ok (by kernel_rfl)) (fun _ _ _ _ _ => (by exact (dg_name 3 sc.nd))) (fun _ _ _ _ _ => (by exact (dts_one (by exact (dt_cmp (op_eqP hu) od_eq (by rfl) (by exact (de_call (ok__law_draw F) ng (hr.mono (by decide)) (by rfl) F.g__law_draw F.D__law_draw.kp (b__law_draw F) .nil dvU_nil tk0 (by exact (da_cons (by exact (de_var 0)) (by exact (da_cons de_int da_nil)))) (mCons_len (mCons_len mNil_len)) (by rfl))) de_int))))) (fun _ _ _ _ _ => (by exact (de_var 3))))) (by exact (dss_one (by exact (ds_ret (by exact (de_ct ca_tuple (by rfl) F.n_tuple (by decide +kernel) (by exact (da_cons (by exact (de_var 2)) da_nil))))))))))
/-! across_of -/
theorem sc_across_of : FnScope ["web", "cut", "position", "tie"] ["web", "cut"] (defScope s_across_of) := ⟨rfl, rfl, rfl, by decide +kernel, rfl, by decide +kernel, by decide +kernel⟩
theorem b_across_of (F : Fx K mg) : Binds K F.fd_across_of ["web", "cut"] [] := F.D_across_of.bindsN fun _ _ _ _ _ _ us hl => match us, hl with | [_, _], _ => rfl
theorem ok_across_of (F : Fx K mg) : FnG P w K mg base (L2.CX P w) 1 F.f_across_of F.fd_across_of ["web", "cut"] (spV K 2 phi_across_of) := by
  refine fn_okG (k := 0) F.D_across_of sc_across_of fun cdv A outer s H E ng hr => ?_
  have hu := hr.units
  have sc := sc_across_of
  exact (by exact (dss_one (by exact (ds_ret (by exact (de_lc (by rfl) sc.nd (by exact (di_enum (by rfl) F.n_enumerate (by exact (da_cons (by exact (de_ix (by exact (de_var 0)) de_int)) da_nil)))) (own := [("position", 2), ("tie", 3)]) (blk_ok (by kernel_rfl)) (fun _ _ _ _ _ => (by exact (dg_tup (by rfl) (by exact (dgs_cons (by exact (dg_name 2 sc.nd)) (by exact (dgs_cons (by exact (dg_name 3 sc.nd)) dgs_nil))))))) (fun _ _ _ _ _ => (by exact (dts_one (by exact (dt_cmp (op_neP hu) od_ne (by rfl) (by exact (de_cmp (op_inP hu) (od_in false) (by rfl) (by exact (de_ix (by exact (de_var 3)) de_int)) (by exact (de_var 1)))) (by exact (de_cmp (op_inP hu) (od_in false) (by rfl) (by exact (de_ix (by exact (de_var 3)) de_int)) (by exact (de_var 1))))))))) (fun _ _ _ _ _ => (by exact (de_var 2)))))))))
/-! is_integer -/
theorem sc_is_integer : FnScope ["value"] ["value"] (defScope s_is_integer) := ⟨rfl, rfl, rfl, by decide +kernel, rfl, by decide +kernel, by decide +kernel⟩
theorem b_is_integer (F : Fx K mg) : Binds K F.fd_is_integer ["value"] [] := F.D_is_integer.bindsN fun _ _ _ _ _ _ us hl => match us, hl with | [_], _ => rfl
theorem ok_is_integer (F : Fx K mg) : FnG P w K mg base (L2.CX P w) 1 F.f_is_integer F.fd_is_integer ["value"] (spV K 1 phi_is_integer) := by
  refine fn_okG (k := 0) F.D_is_integer sc_is_integer fun cdv A outer s H E ng hr => ?_
  have hu := hr.units
  have sc := sc_is_integer
  exact (by exact (dss_one (by exact (ds_ret (by exact (de_and (by exact (de_isi F.n_isinstance F.n_int (by decide +kernel) (by exact (de_var 0)))) (by exact (de_one (by exact (de_not (by exact (de_isi F.n_isinstance F.n_bool (by decide +kernel) (by exact (de_var 0))))))))))))))
/-! is_from_to -/
theorem sc_is_from_to : FnScope ["value", "least", "most"] ["value", "least", "most"] (defScope s_is_from_to) := ⟨rfl, rfl, rfl, by decide +kernel, rfl, by decide +kernel, by decide +kernel⟩
theorem b_is_from_to (F : Fx K mg) : Binds K F.fd_is_from_to ["value", "least", "most"] [] := F.D_is_from_to.bindsN fun _ _ _ _ _ _ us hl => match us, hl with | [_, _, _], _ => rfl
theorem ok_is_from_to (F : Fx K mg) : FnG P w K mg base (L2.CX P w) 2 F.f_is_from_to F.fd_is_from_to ["value", "least", "most"] (spV K 3 phi_is_from_to) := by
  refine fn_okG (k := 1) F.D_is_from_to sc_is_from_to fun cdv A outer s H E ng hr => ?_
  have hu := hr.units
  have sc := sc_is_from_to
  exact (by exact (dss_one (by exact (ds_ret (by exact (de_and (by exact (de_call (ok_is_integer F) ng (hr.mono (by decide)) (by rfl) F.g_is_integer F.D_is_integer.kp (b_is_integer F) .nil dvU_nil tk_cx (by exact (da_cons (by exact (de_var 0)) da_nil)) (mCons_len mNil_len) (by rfl))) (by exact (de_one (by exact (de_ch (op_leP hu) od_le (op_leP hu) od_le (by exact (de_var 1)) (by exact (de_var 0)) (by exact (de_var 2))))))))))))
/-! is_wide -/
theorem sc_is_wide : FnScope ["lot", "many"] ["lot", "many"] (defScope s_is_wide) := ⟨rfl, rfl, rfl, by decide +kernel, rfl, by decide +kernel, by decide +kernel⟩
theorem b_is_wide (F : Fx K mg) : Binds K F.fd_is_wide ["lot", "many"] [] := F.D_is_wide.bindsN fun _ _ _ _ _ _ us hl => match us, hl with | [_, _], _ => rfl
theorem ok_is_wide (F : Fx K mg) : FnG P w K mg base (L2.CX P w) 1 F.f_is_wide F.fd_is_wide ["lot", "many"] (spV K 2 phi_is_wide) := by
  refine fn_okG (k := 0) F.D_is_wide sc_is_wide fun cdv A outer s H E ng hr => ?_
  have hu := hr.units
  have sc := sc_is_wide
  exact (by exact (dss_one (by exact (ds_ret (by exact (de_ch (op_leP hu) od_le (op_leP hu) od_le de_int (by exact (de_cb ca_len (by rfl) F.n_len (by decide +kernel) (by exact (da_cons (by exact (de_var 0)) da_nil)))) (by exact (de_op op_subX od_sub (by exact (de_var 1)) de_int))))))))
/-! is_cut_of -/
theorem sc_is_cut_of : FnScope ["web", "value", "one", "far", "corner"] ["web", "value"] (defScope s_is_cut_of) := ⟨rfl, rfl, rfl, by decide +kernel, rfl, by decide +kernel, by decide +kernel⟩
theorem b_is_cut_of (F : Fx K mg) : Binds K F.fd_is_cut_of ["web", "value"] [] := F.D_is_cut_of.bindsN fun _ _ _ _ _ _ us hl => match us, hl with | [_, _], _ => rfl
theorem ok_is_cut_of (F : Fx K mg) : FnG P w K mg base (L2.CX P w) 3 F.f_is_cut_of F.fd_is_cut_of ["web", "value"] (spV K 2 phi_is_cut_of) := by
  refine fn_okG (k := 2) F.D_is_cut_of sc_is_cut_of fun cdv A outer s H E ng hr => ?_
  have hu := hr.units
  have sc := sc_is_cut_of
  exact (by exact (dss_cons (by exact (ds_if (by exact (dw_t (by exact (dw_or (by exact (dt_not (by exact (dt_val (by exact (de_isi F.n_isinstance F.n_tuple (by decide +kernel) (by exact (de_var 1)))))))) (by exact (dw_or1 (by exact (dt_not (by exact (dt_val (by exact (de_call (ok_is_wide F) ng (hr.mono (by decide)) (by rfl) F.g_is_wide F.D_is_wide.kp (b_is_wide F) .nil dvU_nil tk_cx (by exact (da_cons (by exact (de_var 1)) (by exact (da_cons (by exact (de_ix (by exact (de_var 0)) de_int)) da_nil)))) (mCons_len (mCons_len mNil_len)) (by rfl))))))))))))) (by exact (dss_one (by exact (ds_ret de_bl)))) dss_nil)) (by exact (dss_cons (by exact (ds_if (by exact (dw_t (by exact (dw_or (by exact (dt_not (by exact (dt_val (by exact (de_cb (ca_all (by rfl)) (by rfl) F.n_all (by decide +kernel) (by exact (da_cons (by exact (de_lc (by rfl) sc.nd (by exact (di_seq (by exact (de_var 1)))) (own := [("corner", 4)]) (blk_ok (by kernel_rfl)) (fun _ _ _ _ _ => (by exact (dg_name 4 sc.nd))) (fun _ _ _ _ _ => dts_nil) (fun _ _ _ _ _ => (by exact (de_call (ok_is_from_to F) ng (hr.mono (by decide)) (by rfl) F.g_is_from_to F.D_is_from_to.kp (b_is_from_to F) .nil dvU_nil tk0 (by exact (da_cons (by exact (de_var 4)) (by exact (da_cons de_int (by exact (da_cons (by exact (de_op op_subX od_sub (by exact (de_ix (by exact (de_var 0)) de_int)) de_int)) da_nil)))))) (mCons_len (mCons_len (mCons_len mNil_len))) (by rfl)))))) da_nil)))))))) (by exact (dw_or1 (by exact (dt_cmp (op_neP hu) od_ne (by rfl) (by exact (de_ix (by exact (de_var 1)) de_int)) de_int)))))))) (by exact (dss_one (by exact (ds_ret de_bl)))) dss_nil)) (by exact (dss_one (by exact (ds_ret (by exact (de_cb (ca_all (by rfl)) (by rfl) F.n_all (by decide +kernel) (by exact (da_cons (by exact (de_lc (by rfl) sc.nd (by exact (di_zip (by rfl) F.n_zip (by exact (da_cons (by exact (de_var 1)) (by exact (da_cons (by exact (de_slc (by exact (de_var 1)) (by exact (do_s de_int)) do_n)) da_nil)))))) (own := [("one", 2), ("far", 3)]) (blk_ok (by kernel_rfl)) (fun _ _ _ _ _ => (by exact (dg_tup (by rfl) (by exact (dgs_cons (by exact (dg_name 2 sc.nd)) (by exact (dgs_cons (by exact (dg_name 3 sc.nd)) dgs_nil))))))) (fun _ _ _ _ _ => dts_nil) (fun _ _ _ _ _ => (by exact (de_cmp (op_ltP hu) od_lt (by rfl) (by exact (de_var 2)) (by exact (de_var 3))))))) da_nil))))))))))))
/-! want_cut -/
theorem sc_want_cut : FnScope ["web", "value"] ["web", "value"] (defScope s_want_cut) := ⟨rfl, rfl, rfl, by decide +kernel, rfl, by decide +kernel, by decide +kernel⟩
theorem b_want_cut (F : Fx K mg) : Binds K F.fd_want_cut ["web", "value"] [] := F.D_want_cut.bindsN fun _ _ _ _ _ _ us hl => match us, hl with | [_, _], _ => rfl
theorem ok_want_cut (F : Fx K mg) : FnG P w K mg base (L2.CX P w) 4 F.f_want_cut F.fd_want_cut ["web", "value"] (spV K 2 phi_want_cut) := by
  refine fn_okG (k := 3) F.D_want_cut sc_want_cut fun cdv A outer s H E ng hr => ?_
  have hu := hr.units
  have sc := sc_want_cut
  exact (by exact (dss_cons (by exact (ds_if (by exact (dt_not (by exact (dt_val (by exact (de_call (ok_is_cut_of F) ng (hr.mono (by decide)) (by rfl) F.g_is_cut_of F.D_is_cut_of.kp (b_is_cut_of F) .nil dvU_nil tk_cx (by exact (da_cons (by exact (de_var 0)) (by exact (da_cons (by exact (de_var 1)) da_nil)))) (mCons_len (mCons_len mNil_len)) (by rfl))))))) (by exact (dss_one ds_never)) dss_nil)) (by exact (dss_one (by exact (ds_ret (by exact (de_var 1))))))))
/-! is_count -/
theorem sc_is_count : FnScope ["value"] ["value"] (defScope s_is_count) := ⟨rfl, rfl, rfl, by decide +kernel, rfl, by decide +kernel, by decide +kernel⟩
theorem b_is_count (F : Fx K mg) : Binds K F.fd_is_count ["value"] [] := F.D_is_count.bindsN fun _ _ _ _ _ _ us hl => match us, hl with | [_], _ => rfl
theorem ok_is_count (F : Fx K mg) : FnG P w K mg base (L2.CX P w) 2 F.f_is_count F.fd_is_count ["value"] (spV K 1 phi_is_count) := by
  refine fn_okG (k := 1) F.D_is_count sc_is_count fun cdv A outer s H E ng hr => ?_
  have hu := hr.units
  have sc := sc_is_count
  exact (by exact (dss_one (by exact (ds_ret (by exact (de_and (by exact (de_call (ok_is_integer F) ng (hr.mono (by decide)) (by rfl) F.g_is_integer F.D_is_integer.kp (b_is_integer F) .nil dvU_nil tk_cx (by exact (da_cons (by exact (de_var 0)) da_nil)) (mCons_len mNil_len) (by rfl))) (by exact (de_one (by exact (de_cmp (op_geP hu) od_ge (by rfl) (by exact (de_var 0)) de_int))))))))))
/-! is_pair_below -/
theorem sc_is_pair_below : FnScope ["value", "corners"] ["value", "corners"] (defScope s_is_pair_below) := ⟨rfl, rfl, rfl, by decide +kernel, rfl, by decide +kernel, by decide +kernel⟩
theorem b_is_pair_below (F : Fx K mg) : Binds K F.fd_is_pair_below ["value", "corners"] [] := F.D_is_pair_below.bindsN fun _ _ _ _ _ _ us hl => match us, hl with | [_, _], _ => rfl
theorem ok_is_pair_below (F : Fx K mg) : FnG P w K mg base (L2.CX P w) 3 F.f_is_pair_below F.fd_is_pair_below ["value", "corners"] (spV K 2 phi_is_pair_below) := by
  refine fn_okG (k := 2) F.D_is_pair_below sc_is_pair_below fun cdv A outer s H E ng hr => ?_
  have hu := hr.units
  have sc := sc_is_pair_below
  exact (by exact (dss_cons (by exact (ds_if (by exact (dw_t (by exact (dw_or (by exact (dt_not (by exact (dt_val (by exact (de_isi F.n_isinstance F.n_tuple (by decide +kernel) (by exact (de_var 0)))))))) (by exact (dw_or (by exact (dt_cmp (op_neP hu) od_ne (by rfl) (by exact (de_cb ca_len (by rfl) F.n_len (by decide +kernel) (by exact (da_cons (by exact (de_var 0)) da_nil)))) de_int)) (by exact (dw_or (by exact (dt_not (by exact (dt_val (by exact (de_call (ok_is_count F) ng (hr.mono (by decide)) (by rfl) F.g_is_count F.D_is_count.kp (b_is_count F) .nil dvU_nil tk_cx (by exact (da_cons (by exact (de_ix (by exact (de_var 0)) de_int)) da_nil)) (mCons_len mNil_len) (by rfl))))))) (by exact (dw_or1 (by exact (dt_not (by exact (dt_val (by exact (de_call (ok_is_count F) ng (hr.mono (by decide)) (by rfl) F.g_is_count F.D_is_count.kp (b_is_count F) .nil dvU_nil tk_cx (by exact (da_cons (by exact (de_ix (by exact (de_var 0)) de_int)) da_nil)) (mCons_len mNil_len) (by rfl))))))))))))))))) (by exact (dss_one (by exact (ds_ret de_bl)))) dss_nil)) (by exact (dss_one (by exact (ds_ret (by exact (de_and (by exact (de_cmp (op_neP hu) od_ne (by rfl) (by exact (de_ix (by exact (de_var 0)) de_int)) (by exact (de_ix (by exact (de_var 0)) de_int)))) (by exact (de_one (by exact (de_cmp (op_ltP hu) od_lt (by rfl) (by exact (de_cb (ca_max (by rfl) hu) (by rfl) F.n_max (by decide +kernel) (by exact (da_cons (by exact (de_var 0)) da_nil)))) (by exact (de_var 1))))))))))))))
/-! is_web -/
theorem sc_is_web : FnScope ["value", "corners", "ties", "near", "far", "tie"] ["value"] (defScope s_is_web) := ⟨rfl, rfl, rfl, by decide +kernel, rfl, by decide +kernel, by decide +kernel⟩
theorem b_is_web (F : Fx K mg) : Binds K F.fd_is_web ["value"] [] := F.D_is_web.bindsN fun _ _ _ _ _ _ us hl => match us, hl with | [_], _ => rfl
theorem ok_is_web (F : Fx K mg) : FnG P w K mg base (L2.CX P w) 4 F.f_is_web F.fd_is_web ["value"] (spV K 1 phi_is_web) := by
  refine fn_okG (k := 3) F.D_is_web sc_is_web fun cdv A outer s H E ng hr => ?_
  have hu := hr.units
  have sc := sc_is_web
  exact (by exact (dss_cons (by exact (ds_if (by exact (dw_t (by exact (dw_or (by exact (dt_not (by exact (dt_val (by exact (de_isi F.n_isinstance F.n_tuple (by decide +kernel) (by exact (de_var 0)))))))) (by exact (dw_or (by exact (dt_cmp (op_neP hu) od_ne (by rfl) (by exact (de_cb ca_len (by rfl) F.n_len (by decide +kernel) (by exact (da_cons (by exact (de_var 0)) da_nil)))) de_int)) (by exact (dw_or (by exact (dt_not (by exact (dt_val (by exact (de_isi F.n_isinstance F.n_str (by decide +kernel) (by exact (de_ix (by exact (de_var 0)) de_int)))))))) (by exact (dw_or1 (by exact (dt_cmp (op_neP hu) od_ne (by rfl) (by exact (de_ix (by exact (de_var 0)) de_int)) de_str)))))))))))) (by exact (dss_one (by exact (ds_ret de_bl)))) dss_nil)) (by exact (dss_cons (by exact (ds_asgT (by rfl) (by exact (da_cons (by exact (de_ix (by exact (de_var 0)) de_int)) (by exact (da_cons (by exact (de_ix (by exact (de_var 0)) de_int)) da_nil)))) (by exact (dgs_cons (by exact (dg_name 1 sc.nd)) (by exact (dgs_cons (by exact (dg_name 2 sc.nd)) dgs_nil)))))) (by exact (dss_cons (by exact (ds_if (by exact (dw_t (by exact (dw_or (by exact (dt_not (by exact (dt_val (by exact (de_call (ok_is_from_to F) ng (hr.mono (by decide)) (by rfl) F.g_is_from_to F.D_is_from_to.kp (b_is_from_to F) .nil dvU_nil tk_cx (by exact (da_cons (by exact (de_var 1)) (by exact (da_cons (by exact (de_gi F.c_LEAST_CORNERS)) (by exact (da_cons (by exact (de_gi F.c_MOST_CORNERS)) da_nil)))))) (mCons_len (mCons_len (mCons_len mNil_len))) (by rfl))))))) (by exact (dw_or1 (by exact (dt_not (by exact (dt_val (by exact (de_isi F.n_isinstance F.n_tuple (by decide +kernel) (by exact (de_var 2)))))))))))))) (by exact (dss_one (by exact (ds_ret de_bl)))) dss_nil)) (by exact (dss_cons (by exact (ds_if (by exact (dt_not (by exact (dt_val (by exact (de_cb (ca_all (by rfl)) (by rfl) F.n_all (by decide +kernel) (by exact (da_cons (by exact (de_lc (by rfl) sc.nd (by exact (di_seq (by exact (de_var 2)))) (own := [("tie", 5)]) (blk_ok (by kernel_rfl)) (fun _ _ _ _ _ => (by exact (dg_name 5 sc.nd))) (fun _ _ _ _ _ => dts_nil) (fun _ _ _ _ _ => (by exact (de_and (by exact (de_call (ok_is_pair_below F) ng (hr.mono (by decide)) (by rfl) F.g_is_pair_below F.D_is_pair_below.kp (b_is_pair_below F) .nil dvU_nil tk0 (by exact (da_cons (by exact (de_var 5)) (by exact (da_cons (by exact (de_var 1)) da_nil)))) (mCons_len (mCons_len mNil_len)) (by rfl))) (by exact (de_one (by exact (de_cmp (op_ltP hu) od_lt (by rfl) (by exact (de_ix (by exact (de_var 5)) de_int)) (by exact (de_ix (by exact (de_var 5)) de_int))))))))))) da_nil)))))))) (by exact (dss_one (by exact (ds_ret de_bl)))) dss_nil)) (by exact (dss_one (by exact (ds_ret (by exact (de_cb (ca_all (by rfl)) (by rfl) F.n_all (by decide +kernel) (by exact (da_cons (by exact (de_lc (by rfl) sc.nd (by exact (di_zip (by rfl) F.n_zip (by exact (da_cons (by exact (de_var 2)) (by exact (da_cons (by exact (de_slc (by exact (de_var 2)) (by exact (do_s de_int)) do_n)) da_nil)))))) (own := [("near", 3), ("far", 4)]) (blk_ok (by kernel_rfl)) (fun _ _ _ _ _ => (by exact (dg_tup (by rfl) (by exact (dgs_cons (by exact (dg_name 3 sc.nd)) (by exact (dgs_cons (by exact (dg_name 4 sc.nd)) dgs_nil))))))) (fun _ _ _ _ _ => dts_nil) (fun _ _ _ _ _ => (by exact (de_cmp (op_ltP hu) od_lt (by rfl) (by exact (de_var 3)) (by exact (de_var 4))))))) da_nil))))))))))))))))
/-! want_web -/
theorem sc_want_web : FnScope ["value"] ["value"] (defScope s_want_web) := ⟨rfl, rfl, rfl, by decide +kernel, rfl, by decide +kernel, by decide +kernel⟩
theorem b_want_web (F : Fx K mg) : Binds K F.fd_want_web ["value"] [] := F.D_want_web.bindsN fun _ _ _ _ _ _ us hl => match us, hl with | [_], _ => rfl
theorem ok_want_web (F : Fx K mg) : FnG P w K mg base (L2.CX P w) 5 F.f_want_web F.fd_want_web ["value"] (spV K 1 phi_want_web) := by
  refine fn_okG (k := 4) F.D_want_web sc_want_web fun cdv A outer s H E ng hr => ?_
  have hu := hr.units
  have sc := sc_want_web
  exact (by exact (dss_cons (by exact (ds_if (by exact (dt_not (by exact (dt_val (by exact (de_call (ok_is_web F) ng (hr.mono (by decide)) (by rfl) F.g_is_web F.D_is_web.kp (b_is_web F) .nil dvU_nil tk_cx (by exact (da_cons (by exact (de_var 0)) da_nil)) (mCons_len mNil_len) (by rfl))))))) (by exact (dss_one ds_never)) dss_nil)) (by exact (dss_one (by exact (ds_ret (by exact (de_var 0))))))))
/-! across -/
theorem sc_across : FnScope ["web", "cut"] ["web", "cut"] (defScope s_across) := ⟨rfl, rfl, rfl, by decide +kernel, rfl, by decide +kernel, by decide +kernel⟩
theorem b_across (F : Fx K mg) : Binds K F.fd_across ["web", "cut"] [] := F.D_across.bindsN fun _ _ _ _ _ _ us hl => match us, hl with | [_, _], _ => rfl
theorem kb_across_0_1_0 (F : Fx K mg) : KB K F.fd_across ["web", "cut"] 0 ["cut", "web"] [1, 0] := by
  refine ⟨fun s us ws _ l1 l2 => ?_⟩
  obtain ⟨oc, od, dV, kV, doc, pm, an, cdv, ct, osl, e, _, _, hD, _⟩ := F.D_across.ex
  rcases hD with ⟨_, rfl⟩ | ⟨z, _⟩
  · rw [e]
    match us, l1, ws, l2 with
    | [], _, [_, _], _ => exact .of_eq rfl
  · exact absurd rfl z
theorem ok_across (F : Fx K mg) : FnG P w K mg base (L2.CX P w) 6 F.f_across F.fd_across ["web", "cut"] (spV K 2 phi_across) := by
  refine fn_okG (k := 5) F.D_across sc_across fun cdv A outer s H E ng hr => ?_
  have hu := hr.units
  have sc := sc_across
  exact (by exact (dss_cons (by exact (ds_expr (by exact (de_call (ok_want_web F) ng (hr.mono (by decide)) (by rfl) F.g_want_web F.D_want_web.kp (b_want_web F) .nil dvU_nil tk_cx (by exact (da_cons (by exact (de_var 0)) da_nil)) (mCons_len mNil_len) (by rfl))))) (by exact (dss_one (by exact (ds_ret (by exact (de_call (ok_across_of F) ng (hr.mono (by decide)) (by rfl) F.g_across_of F.D_across_of.kp (b_across_of F) .nil dvU_nil tk_cx (by exact (da_cons (by exact (de_var 0)) (by exact (da_cons (by exact (de_call (ok_want_cut F) ng (hr.mono (by decide)) (by rfl) F.g_want_cut F.D_want_cut.kp (b_want_cut F) .nil dvU_nil tk_cx (by exact (da_cons (by exact (de_var 0)) (by exact (da_cons (by exact (de_var 1)) da_nil)))) (mCons_len (mCons_len mNil_len)) (by rfl))) da_nil)))) (mCons_len (mCons_len mNil_len)) (by rfl)))))))))
/-! is_cut -/
theorem sc_is_cut : FnScope ["web", "value"] ["web", "value"] (defScope s_is_cut) := ⟨rfl, rfl, rfl, by decide +kernel, rfl, by decide +kernel, by decide +kernel⟩
theorem b_is_cut (F : Fx K mg) : Binds K F.fd_is_cut ["web", "value"] [] := F.D_is_cut.bindsN fun _ _ _ _ _ _ us hl => match us, hl with | [_, _], _ => rfl
theorem ok_is_cut (F : Fx K mg) : FnG P w K mg base (L2.CX P w) 6 F.f_is_cut F.fd_is_cut ["web", "value"] (spV K 2 phi_is_cut) := by
  refine fn_okG (k := 5) F.D_is_cut sc_is_cut fun cdv A outer s H E ng hr => ?_
  have hu := hr.units
  have sc := sc_is_cut
  exact (by exact (dss_one (by exact (ds_ret (by exact (de_call (ok_is_cut_of F) ng (hr.mono (by decide)) (by rfl) F.g_is_cut_of F.D_is_cut_of.kp (b_is_cut_of F) .nil dvU_nil tk_cx (by exact (da_cons (by exact (de_call (ok_want_web F) ng (hr.mono (by decide)) (by rfl) F.g_want_web F.D_want_web.kp (b_want_web F) .nil dvU_nil tk_cx (by exact (da_cons (by exact (de_var 0)) da_nil)) (mCons_len mNil_len) (by rfl))) (by exact (da_cons (by exact (de_var 1)) da_nil)))) (mCons_len (mCons_len mNil_len)) (by rfl)))))))
/-! _law_one_right -/
noncomputable def m__law_one_right : Vm.Env → Res Fl := (mSeq (mAsg (mCall phi__law_drawn_lot [] (mCons (mVar 0) (mCons (mIx (mVar 1) (mC (.int 1))) mNil))) (gN 2)) (mSeq (mAsg (mAndV (mOp fEq (mSlc (mVar 2) mOn (mOs (mC (.int 1)))) (mTup (mCons (mC (.int 0)) mNil))) (mCh fLe fLe (mC (.int 2)) (mA (mCons (mVar 2) mNil) kLen) (mOp fSub (mIx (mVar 1) (mC (.int 1))) (mC (.int 2))))) (gN 3)) (mSeq (mIf (mTs fNe (mA (mCons (mCall phi_is_cut [] (mCons (mVar 1) (mCons (mVar 2) mNil))) (mCons (mCall phi_is_cut [] (mCons (mVar 1) (mCons (mA (mCons (mVar 2) mNil) kList) mNil))) mNil)) kReprL) (mA (mCons (mVar 3) (mCons (mC (.bool false)) mNil)) kReprL)) (mRet (mC (.bool false))) mNext) (mSeq (mIf (mNot (mB (mVar 3))) (mRet (mC (.bool true))) mNext) (mSeq (mAsg (mCall phi_across [] (mCons (mVar 1) (mCons (mVar 2) mNil))) (gN 4)) (mSeq (mIf (mTs fNe (mA (mCons (mVar 4) mNil) kRepr) (mA (mCons (mCall phi__law_across [] (mCons (mVar 1) (mCons (mVar 2) mNil))) mNil) kRepr)) (mRet (mC (.bool false))) mNext) (mSeq (mAsg (mLc [6] (mRng1 (mCons (mIx (mVar 1) (mC (.int 1))) mNil)) (gN 6) (mTs (fIn true) (mVar 6) (mVar 2)) (mVar 6)) (gN 5)) (mSeq (mIf (mTs fNe (mVar 4) (mCall phi__law_across [] (mCons (mVar 1) (mCons (mVar 5) mNil)))) (mRet (mC (.bool false))) mNext) (mSeq (mExpr (mMut mkAppend (pN 4) (mCons (mC (.int 99)) mNil))) (mRet (mOp fEq (mCallK phi_across [1, 0] mNil (mCons (mVar 2) (mCons (mVar 1) mNil))) (mSlc (mVar 4) mOn (mOs (mUn fNeg (mC (.int 1))))))))))))))))
noncomputable def phi__law_one_right : Phi := runFn 7 2 (fun i => [0, 1].contains i) m__law_one_right
theorem sc__law_one_right : FnScope ["pot", "web", "lot", "due", "told", "rest", "corner"] ["pot", "web"] (defScope s__law_one_right) := ⟨rfl, rfl, rfl, by decide +kernel, rfl, by decide +kernel, by decide +kernel⟩
theorem b__law_one_right (F : Fx K mg) : Binds K F.fd__law_one_right ["pot", "web"] [] := F.D__law_one_right.bindsN fun _ _ _ _ _ _ us hl => match us, hl with | [_, _], _ => rfl
theorem ok__law_one_right (F : Fx K mg) : FnG P w K mg base (L2.CX P w) 7 F.f__law_one_right F.fd__law_one_right ["pot", "web"] (spV K 2 phi__law_one_right) := by
  refine fn_okG (k := 6) F.D__law_one_right sc__law_one_right fun cdv A outer s H E ng hr => ?_
  have hu := hr.units
  have sc := sc__law_one_right
  exact (by exact (dss_cons (by exact (ds_set 2 (by exact (de_call (ok__law_drawn_lot F) ng (hr.mono (by decide)) (by rfl) F.g__law_drawn_lot F.D__law_drawn_lot.kp (b__law_drawn_lot F) .nil dvU_nil tk_cx (by exact (da_cons (by exact (de_var 0)) (by exact (da_cons (by exact (de_ix (by exact (de_var 1)) de_int)) da_nil)))) (mCons_len (mCons_len mNil_len)) (by rfl))) sc.nd)) (by exact (dss_cons (by exact (ds_set 3 (by exact (de_and (by exact (de_cmp (op_eqP hu) od_eq (by rfl) (by exact (de_slc (by exact (de_var 2)) do_n (by exact (do_s de_int)))) (by exact (de_tup (by exact (da_cons de_int da_nil)))))) (by exact (de_one (by exact (de_ch (op_leP hu) od_le (op_leP hu) od_le de_int (by exact (de_cb ca_len (by rfl) F.n_len (by decide +kernel) (by exact (da_cons (by exact (de_var 2)) da_nil)))) (by exact (de_op op_subX od_sub (by exact (de_ix (by exact (de_var 1)) de_int)) de_int)))))))) sc.nd)) (by exact (dss_cons (by exact (ds_if (by exact (dt_cmp (op_neP hu) od_ne (by rfl) (by exact (de_reprL ng hu (by rfl) F.n_repr (by decide +kernel) (by exact (da_cons (by exact (de_call (ok_is_cut F) ng (hr.mono (by decide)) (by rfl) F.g_is_cut F.D_is_cut.kp (b_is_cut F) .nil dvU_nil tk_cx (by exact (da_cons (by exact (de_var 1)) (by exact (da_cons (by exact (de_var 2)) da_nil)))) (mCons_len (mCons_len mNil_len)) (by rfl))) (by exact (da_cons (by exact (de_call (ok_is_cut F) ng (hr.mono (by decide)) (by rfl) F.g_is_cut F.D_is_cut.kp (b_is_cut F) .nil dvU_nil tk_cx (by exact (da_cons (by exact (de_var 1)) (by exact (da_cons (by exact (de_ct ca_list (by rfl) F.n_list (by decide +kernel) (by exact (da_cons (by exact (de_var 2)) da_nil)))) da_nil)))) (mCons_len (mCons_len mNil_len)) (by rfl))) da_nil)))))) (by exact (de_reprL ng hu (by rfl) F.n_repr (by decide +kernel) (by exact (da_cons (by exact (de_var 3)) (by exact (da_cons de_bl da_nil)))))))) (by exact (dss_one (by exact (ds_ret de_bl)))) dss_nil)) (by exact (dss_cons (by exact (ds_if (by exact (dt_not (by exact (dt_val (by exact (de_var 3)))))) (by exact (dss_one (by exact (ds_ret de_bl)))) dss_nil)) (by exact (dss_cons (by exact (ds_set 4 (by exact (de_call (ok_across F) ng (hr.mono (by decide)) (by rfl) F.g_across F.D_across.kp (b_across F) .nil dvU_nil tk_cx (by exact (da_cons (by exact (de_var 1)) (by exact (da_cons (by exact (de_var 2)) da_nil)))) (mCons_len (mCons_len mNil_len)) (by rfl))) sc.nd)) (by exact (dss_cons (by exact (ds_if (by exact (dt_cmp (op_neP hu) od_ne (by rfl) (by exact (de_cb (ca_repr ng hu) (by rfl) F.n_repr (by decide +kernel) (by exact (da_cons (by exact (de_var 4)) da_nil)))) (by exact (de_cb (ca_repr ng hu) (by rfl) F.n_repr (by decide +kernel) (by exact (da_cons (by exact (de_call (ok__law_across F) ng (hr.mono (by decide)) (by rfl) F.g__law_across F.D__law_across.kp (b__law_across F) .nil dvU_nil tk_cx (by exact (da_cons (by exact (de_var 1)) (by exact (da_cons (by exact (de_var 2)) da_nil)))) (mCons_len (mCons_len mNil_len)) (by rfl))) da_nil)))))) (by exact (dss_one (by exact (ds_ret de_bl)))) dss_nil)) (by exact (dss_cons (by exact (ds_setLc 5 (by rfl) sc.nd (by rfl) (by exact (di_range1 (by rfl) F.n_range (by exact (da_cons (by exact (de_ix (by exact (de_var 1)) de_int)) da_nil)))) (own := [("corner", 6)]) (blk_ok (by kernel_rfl)) (fun _ _ _ _ _ => (by exact (dg_name 6 sc.nd))) (fun _ _ _ _ _ => (by exact (dts_one (by exact (dt_cmp (op_notInP hu) (od_in true) (by rfl) (by exact (de_var 6)) (by exact (de_var 2))))))) (fun _ _ _ _ _ => (by exact (de_var 6))))) (by exact (dss_cons (by exact (ds_if (by exact (dt_cmp (op_neP hu) od_ne (by rfl) (by exact (de_var 4)) (by exact (de_call (ok__law_across F) ng (hr.mono (by decide)) (by rfl) F.g__law_across F.D__law_across.kp (b__law_across F) .nil dvU_nil tk_cx (by exact (da_cons (by exact (de_var 1)) (by exact (da_cons (by exact (de_var 5)) da_nil)))) (mCons_len (mCons_len mNil_len)) (by rfl))))) (by exact (dss_one (by exact (ds_ret de_bl)))) dss_nil)) (by exact (dss_cons (by exact (ds_expr (by exact (de_m1 mu_append PySem.F.slot_list_append PySem.F.type_list_append (by exact (dp_n 4)) (by exact (da_cons de_int da_nil)))))) (by exact (dss_one (by exact (ds_ret (by exact (de_cmp (op_eqP hu) od_eq (by rfl) (by exact (de_callK0 (ok_across F) ng (hr.mono (by decide)) (by rfl) F.g_across F.D_across.kp (kb_across_0_1_0 F) tk_cx (by exact (dk_cons (by exact (de_var 2)) (by exact (dk_cons (by exact (de_var 1)) dk_nil)))) (mCons_len (mCons_len mNil_len)) (by rfl))) (by exact (de_slc (by exact (de_var 4)) do_n (by exact (do_s (by exact (de_un un_neg ud_neg de_int))))))))))))))))))))))))))))))
/-! _law_pot -/
noncomputable def m__law_pot : Vm.Env → Res Fl := (mSeq (mAsg (mIf (mTs fLt (mVar 1) (mA (mCons (mVar 0) mNil) kLen)) (mA (mCons (mIx (mVar 0) (mVar 1)) mNil) (kScA fAbs)) (mAdd (mMul (mC (.int 1013)) (mVar 1)) (mC (.int 653)))) (gN 2)) (mRet (mLst (mCons (mA (mCons (mC (.int 0)) (mCons (mOp fSub (mVar 2) (mOp fPow (mC (.int 10)) (mC (.int 18)))) mNil)) (kScA fMax2)) (mCons (mAdd (mOp fMod (mA (mCons (mAdd (mAdd (mMul (mOp fMod (mA (mCons (mVar 2) mNil) (kScA fInt)) (mC (.int 2147483549))) (mC (.int 41113))) (mMul (mC (.int 4021)) (mVar 1))) (mC (.int 661))) mNil) (kScA fInt)) (mC (.int 2147483563))) (mC (.int 1))) mNil)))))
noncomputable def phi__law_pot : Phi := runFn 3 2 (fun i => [0, 1].contains i) m__law_pot
theorem sc__law_pot : FnScope ["script", "k", "cell"] ["script", "k"] (defScope s__law_pot) := ⟨rfl, rfl, rfl, by decide +kernel, rfl, by decide +kernel, by decide +kernel⟩
theorem b__law_pot (F : Fx K mg) : Binds K F.fd__law_pot ["script", "k"] [] := F.D__law_pot.bindsN fun _ _ _ _ _ _ us hl => match us, hl with | [_, _], _ => rfl
theorem ok__law_pot (F : Fx K mg) : FnG P w K mg base (L2.CX P w) 1 F.f__law_pot F.fd__law_pot ["script", "k"] (spV K 2 phi__law_pot) := by
  refine fn_okG (k := 0) F.D__law_pot sc__law_pot fun cdv A outer s H E ng hr => ?_
  have hu := hr.units
  have sc := sc__law_pot
  exact (by exact (dss_cons (by exact (ds_set 2 (by exact (de_if (by exact (dt_cmp (op_ltP hu) od_lt (by rfl) (by exact (de_var 1)) (by exact (de_cb ca_len (by rfl) F.n_len (by decide +kernel) (by exact (da_cons (by exact (de_var 0)) da_nil)))))) (by exact (de_cb ca_abs (by rfl) F.n_abs (by decide +kernel) (by exact (da_cons (by exact (de_ix (by exact (de_var 0)) (by exact (de_var 1)))) da_nil)))) (by exact (de_add (by exact (de_mul de_int (by exact (de_var 1)))) de_int)))) sc.nd)) (by exact (dss_one (by exact (ds_ret (by exact (de_lst (by exact (da_cons (by exact (de_cb (ca_max2 (by rfl)) (by rfl) F.n_max (by decide +kernel) (by exact (da_cons de_int (by exact (da_cons (by exact (de_op op_subX od_sub (by exact (de_var 2)) (by exact (de_op op_pow od_pow de_int de_int)))) da_nil)))))) (by exact (da_cons (by exact (de_add (by exact (de_op op_mod od_mod (by exact (de_ct ca_int (by rfl) F.n_int (by decide +kernel) (by exact (da_cons (by exact (de_add (by exact (de_add (by exact (de_mul (by exact (de_op op_mod od_mod (by exact (de_ct ca_int (by rfl) F.n_int (by decide +kernel) (by exact (da_cons (by exact (de_var 2)) da_nil)))) de_int)) de_int)) (by exact (de_mul de_int (by exact (de_var 1)))))) de_int)) da_nil)))) de_int)) de_int)) da_nil))))))))))))
/-! _law_web -/
noncomputable def m__law_web : Vm.Env → Res Fl := (mSeq (mPar [2, 3] (mCons (mAdd (mC (.int 4)) (mCall phi__law_draw [] (mCons (mVar 0) (mCons (mOp fSub (mVar 1) (mC (.int 3))) mNil)))) (mCons (mLst mNil) mNil))) (mSeq (mAsg (mAdd (mC (.int 1)) (mCall phi__law_draw [] (mCons (mVar 0) (mCons (mC (.int 3)) mNil)))) (gN 4)) (mSeq (mFor (mRng1 (mCons (mVar 2) mNil)) (gN 5) (mFor (mRng2 (mCons (mAdd (mVar 5) (mC (.int 1))) (mCons (mVar 2) mNil))) (gN 6) (mIf (mTs fLe (mCall phi__law_draw [] (mCons (mVar 0) (mCons (mC (.int 4)) mNil))) (mVar 4)) (mExpr (mMut mkAppend (pN 3) (mCons (mTup (mCons (mVar 5) (mCons (mVar 6) mNil))) mNil))) mNext))) (mRet (mTup (mCons (mC (.str "web")) (mCons (mVar 2) (mCons (mA (mCons (mVar 3) mNil) kTuple) mNil))))))))
noncomputable def phi__law_web : Phi := runFn 7 2 (fun i => [0, 1].contains i) m__law_web
theorem sc__law_web : FnScope ["pot", "most", "corners", "ties", "full", "one", "other"] ["pot", "most"] (defScope s__law_web) := ⟨rfl, rfl, rfl, by decide +kernel, rfl, by decide +kernel, by decide +kernel⟩
theorem b__law_web (F : Fx K mg) : Binds K F.fd__law_web ["pot", "most"] [] := F.D__law_web.bindsN fun _ _ _ _ _ _ us hl => match us, hl with | [_, _], _ => rfl
theorem ok__law_web (F : Fx K mg) : FnG P w K mg base (L2.CX P w) 2 F.f__law_web F.fd__law_web ["pot", "most"] (spV K 2 phi__law_web) := by
  refine fn_okG (k := 1) F.D__law_web sc__law_web fun cdv A outer s H E ng hr => ?_
  have hu := hr.units
  have sc := sc__law_web
  exact (by exact (dss_cons (by exact (ds_par2 2 3 (by rfl) sc.nd (by exact (da_cons (by exact (de_add de_int (by exact (de_call (ok__law_draw F) ng (hr.mono (by decide)) (by rfl) F.g__law_draw F.D__law_draw.kp (b__law_draw F) .nil dvU_nil tk_cx (by exact (da_cons (by exact (de_var 0)) (by exact (da_cons (by exact (de_op op_subX od_sub (by exact (de_var 1)) de_int)) da_nil)))) (mCons_len (mCons_len mNil_len)) (by rfl))))) (by exact (da_cons (by exact (de_lst da_nil)) da_nil)))))) (by exact (dss_cons (by exact (ds_set 4 (by exact (de_add de_int (by exact (de_call (ok__law_draw F) ng (hr.mono (by decide)) (by rfl) F.g__law_draw F.D__law_draw.kp (b__law_draw F) .nil dvU_nil tk_cx (by exact (da_cons (by exact (de_var 0)) (by exact (da_cons de_int da_nil)))) (mCons_len (mCons_len mNil_len)) (by rfl))))) sc.nd)) (by exact (dss_cons (by exact (ds_for (passes_of (by rfl)) (by rfl) (by exact (di_range1 (by rfl) F.n_range (by exact (da_cons (by exact (de_var 2)) da_nil)))) (by exact (dg_name 5 sc.nd)) (by exact (dss_one (by exact (ds_for (passes_of (by rfl)) (by rfl) (by exact (di_range2 (by rfl) F.n_range (by exact (da_cons (by exact (de_add (by exact (de_var 5)) de_int)) (by exact (da_cons (by exact (de_var 2)) da_nil)))))) (by exact (dg_name 6 sc.nd)) (by exact (dss_one (by exact (ds_if (by exact (dt_cmp (op_leP hu) od_le (by rfl) (by exact (de_call (ok__law_draw F) ng (hr.mono (by decide)) (by rfl) F.g__law_draw F.D__law_draw.kp (b__law_draw F) .nil dvU_nil tk_cx (by exact (da_cons (by exact (de_var 0)) (by exact (da_cons de_int da_nil)))) (mCons_len (mCons_len mNil_len)) (by rfl))) (by exact (de_var 4)))) (by exact (dss_one (by exact (ds_expr (by exact (de_m1 mu_append PySem.F.slot_list_append PySem.F.type_list_append (by exact (dp_n 3)) (by exact (da_cons (by exact (de_tup (by exact (da_cons (by exact (de_var 5)) (by exact (da_cons (by exact (de_var 6)) da_nil)))))) da_nil)))))))) dss_nil)))))))))) (by exact (dss_one (by exact (ds_ret (by exact (de_tup (by exact (da_cons de_str (by exact (da_cons (by exact (de_var 2)) (by exact (da_cons (by exact (de_ct ca_tuple (by rfl) F.n_tuple (by decide +kernel) (by exact (da_cons (by exact (de_var 3)) da_nil)))) da_nil))))))))))))))))))
/-! first_lots -/
theorem sc_first_lots : FnScope ["many", "found", "corner", "lot"] ["many"] (defScope s_first_lots) := ⟨rfl, rfl, rfl, by decide +kernel, rfl, by decide +kernel, by decide +kernel⟩
theorem b_first_lots (F : Fx K mg) : Binds K F.fd_first_lots ["many"] [] := F.D_first_lots.bindsN fun _ _ _ _ _ _ us hl => match us, hl with | [_], _ => rfl
theorem ok_first_lots (F : Fx K mg) : FnG P w K mg base (L2.CX P w) 1 F.f_first_lots F.fd_first_lots ["many"] (spV K 1 phi_first_lots) := by
  refine fn_okG (k := 0) F.D_first_lots sc_first_lots fun cdv A outer s H E ng hr => ?_
  have hu := hr.units
  have sc := sc_first_lots
  exact (by exact (dss_cons (by exact (ds_set 1 (by exact (de_lst (by exact (da_cons (by exact (de_tup (by exact (da_cons de_int da_nil)))) da_nil)))) sc.nd)) (by exact (dss_cons (by exact (ds_for (passes_of (by rfl)) (by rfl) (by exact (di_range2 (by rfl) F.n_range (by exact (da_cons de_int (by exact (da_cons (by exact (de_var 0)) da_nil)))))) (by exact (dg_name 2 sc.nd)) (by exact (dss_one (by exact (ds_set 1 (by exact (de_add (by exact (de_var 1)) (by exact (de_lc (by rfl) sc.nd (by exact (di_seq (by exact (de_var 1)))) (own := [("lot", 3)]) (blk_ok (by kernel_rfl)) (fun _ _ _ _ _ => (by exact (dg_name 3 sc.nd))) (fun _ _ _ _ _ => dts_nil) (fun _ _ _ _ _ => (by exact (de_add (by exact (de_var 3)) (by exact (de_tup (by exact (da_cons (by exact (de_var 2)) da_nil))))))))))) sc.nd)))))) (by exact (dss_one (by exact (ds_ret (by exact (de_var 1))))))))))
/-! want_at_most -/
theorem sc_want_at_most : FnScope ["what", "limit", "number"] ["what", "limit", "number"] (defScope s_want_at_most) := ⟨rfl, rfl, rfl, by decide +kernel, rfl, by decide +kernel, by decide +kernel⟩
theorem b_want_at_most (F : Fx K mg) : Binds K F.fd_want_at_most ["what", "limit", "number"] [] := F.D_want_at_most.bindsN fun _ _ _ _ _ _ us hl => match us, hl with | [_, _, _], _ => rfl
theorem ok_want_at_most (F : Fx K mg) : FnG P w K mg base (L2.CX P w) 1 F.f_want_at_most F.fd_want_at_most ["what", "limit", "number"] (spV K 3 phi_want_at_most) := by
  refine fn_okG (k := 0) F.D_want_at_most sc_want_at_most fun cdv A outer s H E ng hr => ?_
  have hu := hr.units
  have sc := sc_want_at_most
  exact (by exact (dss_one (by exact (ds_if (by exact (dt_cmp (op_gtP hu) od_gt (by rfl) (by exact (de_var 2)) (by exact (de_var 1)))) (by exact (dss_one ds_never)) dss_nil))))
/-! all_cuts -/
theorem sc_all_cuts : FnScope ["web", "many", "lot"] ["web"] (defScope s_all_cuts) := ⟨rfl, rfl, rfl, by decide +kernel, rfl, by decide +kernel, by decide +kernel⟩
theorem b_all_cuts (F : Fx K mg) : Binds K F.fd_all_cuts ["web"] [] := F.D_all_cuts.bindsN fun _ _ _ _ _ _ us hl => match us, hl with | [_], _ => rfl
theorem kb_all_cuts_0_0 (F : Fx K mg) : KB K F.fd_all_cuts ["web"] 0 ["web"] [0] := by
  refine ⟨fun s us ws _ l1 l2 => ?_⟩
  obtain ⟨oc, od, dV, kV, doc, pm, an, cdv, ct, osl, e, _, _, hD, _⟩ := F.D_all_cuts.ex
  rcases hD with ⟨_, rfl⟩ | ⟨z, _⟩
  · rw [e]
    match us, l1, ws, l2 with
    | [], _, [_], _ => exact .of_eq rfl
  · exact absurd rfl z
theorem ok_all_cuts (F : Fx K mg) : FnG P w K mg base (L2.CX P w) 6 F.f_all_cuts F.fd_all_cuts ["web"] (spV K 1 phi_all_cuts) := by
  refine fn_okG (k := 5) F.D_all_cuts sc_all_cuts fun cdv A outer s H E ng hr => ?_
  have hu := hr.units
  have sc := sc_all_cuts
  exact (by exact (dss_cons (by exact (ds_set 1 (by exact (de_ix (by exact (de_call (ok_want_web F) ng (hr.mono (by decide)) (by rfl) F.g_want_web F.D_want_web.kp (b_want_web F) .nil dvU_nil tk_cx (by exact (da_cons (by exact (de_var 0)) da_nil)) (mCons_len mNil_len) (by rfl))) de_int)) sc.nd)) (by exact (dss_cons (by exact (ds_expr (by exact (de_call (ok_want_at_most F) ng (hr.mono (by decide)) (by rfl) F.g_want_at_most F.D_want_at_most.kp (b_want_at_most F) .nil dvU_nil tk_cx (by exact (da_cons de_str (by exact (da_cons (by exact (de_gi F.c_MOST_LISTED)) (by exact (da_cons (by exact (de_var 1)) da_nil)))))) (mCons_len (mCons_len (mCons_len mNil_len))) (by rfl))))) (by exact (dss_one (by exact (ds_ret (by exact (de_cb (ca_sorted hu) (by rfl) F.n_sorted (by decide +kernel) (by exact (da_cons (by exact (de_lc (by rfl) sc.nd (by exact (di_seq (by exact (de_call (ok_first_lots F) ng (hr.mono (by decide)) (by rfl) F.g_first_lots F.D_first_lots.kp (b_first_lots F) .nil dvU_nil tk_cx (by exact (da_cons (by exact (de_var 1)) da_nil)) (mCons_len mNil_len) (by rfl))))) (own := [("lot", 2)]) (blk_ok (by kernel_rfl)) (fun _ _ _ _ _ => (by exact (dg_name 2 sc.nd))) (fun _ _ _ _ _ => (by exact (dts_one (by exact (dt_val (by exact (de_call (ok_is_wide F) ng (hr.mono (by decide)) (by rfl) F.g_is_wide F.D_is_wide.kp (b_is_wide F) .nil dvU_nil tk0 (by exact (da_cons (by exact (de_var 2)) (by exact (da_cons (by exact (de_var 1)) da_nil)))) (mCons_len (mCons_len mNil_len)) (by rfl)))))))) (fun _ _ _ _ _ => (by exact (de_var 2))))) da_nil))))))))))))
/-! law -/
noncomputable def m_law : Vm.Env → Res Fl := (mSeq (mAsg (mCall phi__law_pot [] (mCons (mVar 0) (mCons (mC (.int 0)) mNil))) (gN 1)) (mSeq (mAsg (mCall phi__law_web [] (mCons (mVar 1) (mCons (mIf (mTs fEq (mCall phi__law_draw [] (mCons (mVar 1) (mCons (mC (.int 6)) mNil))) (mC (.int 0))) (mC (.int 8)) (mC (.int 7))) mNil))) (gN 2)) (mSeq (mPar [3, 4] (mCons (mCall phi_all_cuts [] (mCons (mVar 2) mNil)) (mCons (mCall phi__law_cuts [] (mCons (mIx (mVar 2) (mC (.int 1))) mNil)) mNil))) (mSeq (mIf (mOr (mTs fNe (mA (mCons (mVar 3) mNil) kRepr) (mA (mCons (mVar 4) mNil) kRepr)) (mTs fNe (mA (mCons (mVar 3) mNil) kLen) (mOp fSub (mOp fSub (mOp fShl (mC (.int 1)) (mOp fSub (mIx (mVar 2) (mC (.int 1))) (mC (.int 1)))) (mIx (mVar 2) (mC (.int 1)))) (mC (.int 1))))) (mRet (mC (.bool false))) mNext) (mSeq (mExpr (mMut mkAppend (pN 3) (mCons (mTup mNil) mNil))) (mSeq (mIf (mTs fNe (mCallK phi_all_cuts [0] mNil (mCons (mVar 2) mNil)) (mVar 4)) (mRet (mC (.bool false))) mNext) (mSeq (mFor (mRng1 (mCons (mC (.int 4)) mNil)) (gN 5) (mIf (mNot (mB (mCall phi__law_one_right [] (mCons (mVar 1) (mCons (mVar 2) mNil))))) (mRet (mC (.bool false))) mNext)) (mRet (mCall phi__law_one_right [] (mCons (mVar 1) (mCons (mCall phi__law_web [] (mCons (mVar 1) (mCons (mC (.int 12)) mNil))) mNil)))))))))))
noncomputable def phi_law : Phi := runFn 6 1 (fun i => [0].contains i) m_law
theorem sc_law : FnScope ["script", "pot", "web", "told", "due", "turn"] ["script"] (defScope s_law) := ⟨rfl, rfl, rfl, by decide +kernel, rfl, by decide +kernel, by decide +kernel⟩
theorem b_law (F : Fx K mg) : Binds K F.fd_law ["script"] [] := F.D_law.bindsN fun _ _ _ _ _ _ us hl => match us, hl with | [_], _ => rfl
theorem ok_law (F : Fx K mg) : FnG P w K mg base (L2.CX P w) 8 F.f_law F.fd_law ["script"] (spV K 1 phi_law) := by
  refine fn_okG (k := 7) F.D_law sc_law fun cdv A outer s H E ng hr => ?_
  have hu := hr.units
  have sc := sc_law
  exact (by exact (dss_cons (by exact (ds_set 1 (by exact (de_call (ok__law_pot F) ng (hr.mono (by decide)) (by rfl) F.g__law_pot F.D__law_pot.kp (b__law_pot F) .nil dvU_nil tk_cx (by exact (da_cons (by exact (de_var 0)) (by exact (da_cons de_int da_nil)))) (mCons_len (mCons_len mNil_len)) (by rfl))) sc.nd)) (by exact (dss_cons (by exact (ds_set 2 (by exact (de_call (ok__law_web F) ng (hr.mono (by decide)) (by rfl) F.g__law_web F.D__law_web.kp (b__law_web F) .nil dvU_nil tk_cx (by exact (da_cons (by exact (de_var 1)) (by exact (da_cons (by exact (de_if (by exact (dt_cmp (op_eqP hu) od_eq (by rfl) (by exact (de_call (ok__law_draw F) ng (hr.mono (by decide)) (by rfl) F.g__law_draw F.D__law_draw.kp (b__law_draw F) .nil dvU_nil tk_cx (by exact (da_cons (by exact (de_var 1)) (by exact (da_cons de_int da_nil)))) (mCons_len (mCons_len mNil_len)) (by rfl))) de_int)) de_int de_int)) da_nil)))) (mCons_len (mCons_len mNil_len)) (by rfl))) sc.nd)) (by exact (dss_cons (by exact (ds_par2 3 4 (by rfl) sc.nd (by exact (da_cons (by exact (de_call (ok_all_cuts F) ng (hr.mono (by decide)) (by rfl) F.g_all_cuts F.D_all_cuts.kp (b_all_cuts F) .nil dvU_nil tk_cx (by exact (da_cons (by exact (de_var 2)) da_nil)) (mCons_len mNil_len) (by rfl))) (by exact (da_cons (by exact (de_call (ok__law_cuts F) ng (hr.mono (by decide)) (by rfl) F.g__law_cuts F.D__law_cuts.kp (b__law_cuts F) .nil dvU_nil tk_cx (by exact (da_cons (by exact (de_ix (by exact (de_var 2)) de_int)) da_nil)) (mCons_len mNil_len) (by rfl))) da_nil)))))) (by exact (dss_cons (by exact (ds_if (by exact (dw_t (by exact (dw_or (by exact (dt_cmp (op_neP hu) od_ne (by rfl) (by exact (de_cb (ca_repr ng hu) (by rfl) F.n_repr (by decide +kernel) (by exact (da_cons (by exact (de_var 3)) da_nil)))) (by exact (de_cb (ca_repr ng hu) (by rfl) F.n_repr (by decide +kernel) (by exact (da_cons (by exact (de_var 4)) da_nil)))))) (by exact (dw_or1 (by exact (dt_cmp (op_neP hu) od_ne (by rfl) (by exact (de_cb ca_len (by rfl) F.n_len (by decide +kernel) (by exact (da_cons (by exact (de_var 3)) da_nil)))) (by exact (de_op op_subX od_sub (by exact (de_op op_subX od_sub (by exact (de_op op_shl od_shl de_int (by exact (de_op op_subX od_sub (by exact (de_ix (by exact (de_var 2)) de_int)) de_int)))) (by exact (de_ix (by exact (de_var 2)) de_int)))) de_int)))))))))) (by exact (dss_one (by exact (ds_ret de_bl)))) dss_nil)) (by exact (dss_cons (by exact (ds_expr (by exact (de_m1 mu_append PySem.F.slot_list_append PySem.F.type_list_append (by exact (dp_n 3)) (by exact (da_cons (by exact (de_tup da_nil)) da_nil)))))) (by exact (dss_cons (by exact (ds_if (by exact (dt_cmp (op_neP hu) od_ne (by rfl) (by exact (de_callK0 (ok_all_cuts F) ng (hr.mono (by decide)) (by rfl) F.g_all_cuts F.D_all_cuts.kp (kb_all_cuts_0_0 F) tk_cx (by exact (dk_cons (by exact (de_var 2)) dk_nil)) (mCons_len mNil_len) (by rfl))) (by exact (de_var 4)))) (by exact (dss_one (by exact (ds_ret de_bl)))) dss_nil)) (by exact (dss_cons (by exact (ds_for (passes_of (by rfl)) (by rfl) (by exact (di_range1 (by rfl) F.n_range (by exact (da_cons de_int da_nil)))) (by exact (dg_name 5 sc.nd)) (by exact (dss_one (by exact (ds_if (by exact (dt_not (by exact (dt_val (by exact (de_call (ok__law_one_right F) ng (hr.mono (by decide)) (by rfl) F.g__law_one_right F.D__law_one_right.kp (b__law_one_right F) .nil dvU_nil tk_cx (by exact (da_cons (by exact (de_var 1)) (by exact (da_cons (by exact (de_var 2)) da_nil)))) (mCons_len (mCons_len mNil_len)) (by rfl))))))) (by exact (dss_one (by exact (ds_ret de_bl)))) dss_nil)))))) (by exact (dss_one (by exact (ds_ret (by exact (de_call (ok__law_one_right F) ng (hr.mono (by decide)) (by rfl) F.g__law_one_right F.D__law_one_right.kp (b__law_one_right F) .nil dvU_nil tk_cx (by exact (da_cons (by exact (de_var 1)) (by exact (da_cons (by exact (de_call (ok__law_web F) ng (hr.mono (by decide)) (by rfl) F.g__law_web F.D__law_web.kp (b__law_web F) .nil dvU_nil tk_cx (by exact (da_cons (by exact (de_var 1)) (by exact (da_cons de_int da_nil)))) (mCons_len (mCons_len mNil_len)) (by rfl))) da_nil)))) (mCons_len (mCons_len mNil_len)) (by rfl)))))))))))))))))))))
end
/-! the head -/
def d__law_cuts : He.DefD := ⟨("_law_cuts", none), "_law_cuts", "_law_cuts", defArgs s__law_cuts, defBody s__law_cuts, defScope s__law_cuts, [], []⟩
def d__law_draw : He.DefD := ⟨("_law_draw", none), "_law_draw", "_law_draw", defArgs s__law_draw, defBody s__law_draw, defScope s__law_draw, [], []⟩
def d__law_across : He.DefD := ⟨("_law_across", none), "_law_across", "_law_across", defArgs s__law_across, defBody s__law_across, defScope s__law_across, [], []⟩
def d__law_drawn_lot : He.DefD := ⟨("_law_drawn_lot", none), "_law_drawn_lot", "_law_drawn_lot", defArgs s__law_drawn_lot, defBody s__law_drawn_lot, defScope s__law_drawn_lot, [], []⟩
def d_across_of : He.DefD := ⟨("across_of", none), "across_of", "across_of", defArgs s_across_of, defBody s_across_of, defScope s_across_of, [], []⟩
def d_is_integer : He.DefD := ⟨("is_integer", none), "is_integer", "is_integer", defArgs s_is_integer, defBody s_is_integer, defScope s_is_integer, [], []⟩
def d_is_from_to : He.DefD := ⟨("is_from_to", none), "is_from_to", "is_from_to", defArgs s_is_from_to, defBody s_is_from_to, defScope s_is_from_to, [], []⟩
def d_is_wide : He.DefD := ⟨("is_wide", none), "is_wide", "is_wide", defArgs s_is_wide, defBody s_is_wide, defScope s_is_wide, [], []⟩
def d_is_cut_of : He.DefD := ⟨("is_cut_of", none), "is_cut_of", "is_cut_of", defArgs s_is_cut_of, defBody s_is_cut_of, defScope s_is_cut_of, [], []⟩
def d_want_cut : He.DefD := ⟨("want_cut", none), "want_cut", "want_cut", defArgs s_want_cut, defBody s_want_cut, defScope s_want_cut, [], []⟩
def d_is_count : He.DefD := ⟨("is_count", none), "is_count", "is_count", defArgs s_is_count, defBody s_is_count, defScope s_is_count, [], []⟩
def d_is_pair_below : He.DefD := ⟨("is_pair_below", none), "is_pair_below", "is_pair_below", defArgs s_is_pair_below, defBody s_is_pair_below, defScope s_is_pair_below, [], []⟩
def d_is_web : He.DefD := ⟨("is_web", none), "is_web", "is_web", defArgs s_is_web, defBody s_is_web, defScope s_is_web, [], []⟩
def d_want_web : He.DefD := ⟨("want_web", none), "want_web", "want_web", defArgs s_want_web, defBody s_want_web, defScope s_want_web, [], []⟩
def d_across : He.DefD := ⟨("across", none), "across", "across", defArgs s_across, defBody s_across, defScope s_across, [], []⟩
def d_is_cut : He.DefD := ⟨("is_cut", none), "is_cut", "is_cut", defArgs s_is_cut, defBody s_is_cut, defScope s_is_cut, [], []⟩
def d__law_one_right : He.DefD := ⟨("_law_one_right", none), "_law_one_right", "_law_one_right", defArgs s__law_one_right, defBody s__law_one_right, defScope s__law_one_right, [], []⟩
def d__law_pot : He.DefD := ⟨("_law_pot", none), "_law_pot", "_law_pot", defArgs s__law_pot, defBody s__law_pot, defScope s__law_pot, [], []⟩
def d__law_web : He.DefD := ⟨("_law_web", none), "_law_web", "_law_web", defArgs s__law_web, defBody s__law_web, defScope s__law_web, [], []⟩
def d_first_lots : He.DefD := ⟨("first_lots", none), "first_lots", "first_lots", defArgs s_first_lots, defBody s_first_lots, defScope s_first_lots, [], []⟩
def d_want_at_most : He.DefD := ⟨("want_at_most", none), "want_at_most", "want_at_most", defArgs s_want_at_most, defBody s_want_at_most, defScope s_want_at_most, [], []⟩
def d_all_cuts : He.DefD := ⟨("all_cuts", none), "all_cuts", "all_cuts", defArgs s_all_cuts, defBody s_all_cuts, defScope s_all_cuts, [], []⟩
def d_law : He.DefD := ⟨("law", none), "law", "law", defArgs s_law, defBody s_law, defScope s_law, [], []⟩
def fn : List He.DefD := [d__law_cuts, d__law_draw, d__law_across, d__law_drawn_lot, d_across_of, d_is_integer, d_is_from_to, d_is_wide, d_is_cut_of, d_want_cut, d_is_count, d_is_pair_below, d_is_web, d_want_web, d_across, d_is_cut, d__law_one_right, d__law_pot, d__law_web, d_first_lots, d_want_at_most, d_all_cuts, d_law]
def fa : List He.Fa := [.free "abs", .free "all", .free "bool", .free "divmod", .free "enumerate", .free "int", .free "isinstance", .free "len", .free "list", .free "max", .free "range", .free "repr", .free "sorted", .free "str", .free "tuple", .free "zip", .int "LEAST_CORNERS" 4, .int "MOST_CORNERS" 12, .int "MOST_LISTED" 8, .glo "_law_cuts", .glo "_law_draw", .glo "_law_across", .glo "_law_drawn_lot", .glo "across_of", .glo "is_integer", .glo "is_from_to", .glo "is_wide", .glo "is_cut_of", .glo "want_cut", .glo "is_count", .glo "is_pair_below", .glo "is_web", .glo "want_web", .glo "across", .glo "is_cut", .glo "_law_one_right", .glo "_law_pot", .glo "_law_web", .glo "first_lots", .glo "want_at_most", .glo "all_cuts", .glo "law"]
def exs : List (PySem.Str × PyData) := []
def exb : List (PySem.Str × String) := []
def ex : Frag → Bool := fun K => (exs.all fun q => datC K q.1 q.2) && exb.all fun q => bltC K q.1 q.2
theorem facts {K : Frag} {h : Heap} {mg : Str → Option Value} (X : K.In h) (G : h.Ns mainGlobals mg) (c : SaysV fa fn ex K) : ∃ F : Fx K mg, F.f_law = He.ga K "law" := by
  obtain ⟨x__law_cuts, D__law_cuts⟩ := c.d.def_ 0 (d := d__law_cuts) rfl
  obtain ⟨x__law_draw, D__law_draw⟩ := c.d.def_ 1 (d := d__law_draw) rfl
  obtain ⟨x__law_across, D__law_across⟩ := c.d.def_ 2 (d := d__law_across) rfl
  obtain ⟨x__law_drawn_lot, D__law_drawn_lot⟩ := c.d.def_ 3 (d := d__law_drawn_lot) rfl
  obtain ⟨x_across_of, D_across_of⟩ := c.d.def_ 4 (d := d_across_of) rfl
  obtain ⟨x_is_integer, D_is_integer⟩ := c.d.def_ 5 (d := d_is_integer) rfl
  obtain ⟨x_is_from_to, D_is_from_to⟩ := c.d.def_ 6 (d := d_is_from_to) rfl
  obtain ⟨x_is_wide, D_is_wide⟩ := c.d.def_ 7 (d := d_is_wide) rfl
  obtain ⟨x_is_cut_of, D_is_cut_of⟩ := c.d.def_ 8 (d := d_is_cut_of) rfl
  obtain ⟨x_want_cut, D_want_cut⟩ := c.d.def_ 9 (d := d_want_cut) rfl
  obtain ⟨x_is_count, D_is_count⟩ := c.d.def_ 10 (d := d_is_count) rfl
  obtain ⟨x_is_pair_below, D_is_pair_below⟩ := c.d.def_ 11 (d := d_is_pair_below) rfl
  obtain ⟨x_is_web, D_is_web⟩ := c.d.def_ 12 (d := d_is_web) rfl
  obtain ⟨x_want_web, D_want_web⟩ := c.d.def_ 13 (d := d_want_web) rfl
  obtain ⟨x_across, D_across⟩ := c.d.def_ 14 (d := d_across) rfl
  obtain ⟨x_is_cut, D_is_cut⟩ := c.d.def_ 15 (d := d_is_cut) rfl
  obtain ⟨x__law_one_right, D__law_one_right⟩ := c.d.def_ 16 (d := d__law_one_right) rfl
  obtain ⟨x__law_pot, D__law_pot⟩ := c.d.def_ 17 (d := d__law_pot) rfl
  obtain ⟨x__law_web, D__law_web⟩ := c.d.def_ 18 (d := d__law_web) rfl
  obtain ⟨x_first_lots, D_first_lots⟩ := c.d.def_ 19 (d := d_first_lots) rfl
  obtain ⟨x_want_at_most, D_want_at_most⟩ := c.d.def_ 20 (d := d_want_at_most) rfl
  obtain ⟨x_all_cuts, D_all_cuts⟩ := c.d.def_ 21 (d := d_all_cuts) rfl
  obtain ⟨x_law, D_law⟩ := c.d.def_ 22 (d := d_law) rfl
  exact ⟨{
    n_abs := He.free_ok X G (c.d.fact 0 (f := .free "abs") rfl),
    n_all := He.free_ok X G (c.d.fact 1 (f := .free "all") rfl),
    n_bool := He.free_ok X G (c.d.fact 2 (f := .free "bool") rfl),
    n_divmod := He.free_ok X G (c.d.fact 3 (f := .free "divmod") rfl),
    n_enumerate := He.free_ok X G (c.d.fact 4 (f := .free "enumerate") rfl),
    n_int := He.free_ok X G (c.d.fact 5 (f := .free "int") rfl),
    n_isinstance := He.free_ok X G (c.d.fact 6 (f := .free "isinstance") rfl),
    n_len := He.free_ok X G (c.d.fact 7 (f := .free "len") rfl),
    n_list := He.free_ok X G (c.d.fact 8 (f := .free "list") rfl),
    n_max := He.free_ok X G (c.d.fact 9 (f := .free "max") rfl),
    n_range := He.free_ok X G (c.d.fact 10 (f := .free "range") rfl),
    n_repr := He.free_ok X G (c.d.fact 11 (f := .free "repr") rfl),
    n_sorted := He.free_ok X G (c.d.fact 12 (f := .free "sorted") rfl),
    n_str := He.free_ok X G (c.d.fact 13 (f := .free "str") rfl),
    n_tuple := He.free_ok X G (c.d.fact 14 (f := .free "tuple") rfl),
    n_zip := He.free_ok X G (c.d.fact 15 (f := .free "zip") rfl),
    c_LEAST_CORNERS := He.int_ok X G (c.d.fact 16 (f := .int "LEAST_CORNERS" 4) rfl),
    c_MOST_CORNERS := He.int_ok X G (c.d.fact 17 (f := .int "MOST_CORNERS" 12) rfl),
    c_MOST_LISTED := He.int_ok X G (c.d.fact 18 (f := .int "MOST_LISTED" 8) rfl),
    g__law_cuts := He.glo_ok X G (c.d.fact 19 (f := .glo "_law_cuts") rfl),
    g__law_draw := He.glo_ok X G (c.d.fact 20 (f := .glo "_law_draw") rfl),
    g__law_across := He.glo_ok X G (c.d.fact 21 (f := .glo "_law_across") rfl),
    g__law_drawn_lot := He.glo_ok X G (c.d.fact 22 (f := .glo "_law_drawn_lot") rfl),
    g_across_of := He.glo_ok X G (c.d.fact 23 (f := .glo "across_of") rfl),
    g_is_integer := He.glo_ok X G (c.d.fact 24 (f := .glo "is_integer") rfl),
    g_is_from_to := He.glo_ok X G (c.d.fact 25 (f := .glo "is_from_to") rfl),
    g_is_wide := He.glo_ok X G (c.d.fact 26 (f := .glo "is_wide") rfl),
    g_is_cut_of := He.glo_ok X G (c.d.fact 27 (f := .glo "is_cut_of") rfl),
    g_want_cut := He.glo_ok X G (c.d.fact 28 (f := .glo "want_cut") rfl),
    g_is_count := He.glo_ok X G (c.d.fact 29 (f := .glo "is_count") rfl),
    g_is_pair_below := He.glo_ok X G (c.d.fact 30 (f := .glo "is_pair_below") rfl),
    g_is_web := He.glo_ok X G (c.d.fact 31 (f := .glo "is_web") rfl),
    g_want_web := He.glo_ok X G (c.d.fact 32 (f := .glo "want_web") rfl),
    g_across := He.glo_ok X G (c.d.fact 33 (f := .glo "across") rfl),
    g_is_cut := He.glo_ok X G (c.d.fact 34 (f := .glo "is_cut") rfl),
    g__law_one_right := He.glo_ok X G (c.d.fact 35 (f := .glo "_law_one_right") rfl),
    g__law_pot := He.glo_ok X G (c.d.fact 36 (f := .glo "_law_pot") rfl),
    g__law_web := He.glo_ok X G (c.d.fact 37 (f := .glo "_law_web") rfl),
    g_first_lots := He.glo_ok X G (c.d.fact 38 (f := .glo "first_lots") rfl),
    g_want_at_most := He.glo_ok X G (c.d.fact 39 (f := .glo "want_at_most") rfl),
    g_all_cuts := He.glo_ok X G (c.d.fact 40 (f := .glo "all_cuts") rfl),
    g_law := He.glo_ok X G (c.d.fact 41 (f := .glo "law") rfl),
    f__law_cuts := He.ga K "_law_cuts", fd__law_cuts := x__law_cuts, D__law_cuts := D__law_cuts,
    f__law_draw := He.ga K "_law_draw", fd__law_draw := x__law_draw, D__law_draw := D__law_draw,
    f__law_across := He.ga K "_law_across", fd__law_across := x__law_across, D__law_across := D__law_across,
    f__law_drawn_lot := He.ga K "_law_drawn_lot", fd__law_drawn_lot := x__law_drawn_lot, D__law_drawn_lot := D__law_drawn_lot,
    f_across_of := He.ga K "across_of", fd_across_of := x_across_of, D_across_of := D_across_of,
    f_is_integer := He.ga K "is_integer", fd_is_integer := x_is_integer, D_is_integer := D_is_integer,
    f_is_from_to := He.ga K "is_from_to", fd_is_from_to := x_is_from_to, D_is_from_to := D_is_from_to,
    f_is_wide := He.ga K "is_wide", fd_is_wide := x_is_wide, D_is_wide := D_is_wide,
    f_is_cut_of := He.ga K "is_cut_of", fd_is_cut_of := x_is_cut_of, D_is_cut_of := D_is_cut_of,
    f_want_cut := He.ga K "want_cut", fd_want_cut := x_want_cut, D_want_cut := D_want_cut,
    f_is_count := He.ga K "is_count", fd_is_count := x_is_count, D_is_count := D_is_count,
    f_is_pair_below := He.ga K "is_pair_below", fd_is_pair_below := x_is_pair_below, D_is_pair_below := D_is_pair_below,
    f_is_web := He.ga K "is_web", fd_is_web := x_is_web, D_is_web := D_is_web,
    f_want_web := He.ga K "want_web", fd_want_web := x_want_web, D_want_web := D_want_web,
    f_across := He.ga K "across", fd_across := x_across, D_across := D_across,
    f_is_cut := He.ga K "is_cut", fd_is_cut := x_is_cut, D_is_cut := D_is_cut,
    f__law_one_right := He.ga K "_law_one_right", fd__law_one_right := x__law_one_right, D__law_one_right := D__law_one_right,
    f__law_pot := He.ga K "_law_pot", fd__law_pot := x__law_pot, D__law_pot := D__law_pot,
    f__law_web := He.ga K "_law_web", fd__law_web := x__law_web, D__law_web := D__law_web,
    f_first_lots := He.ga K "first_lots", fd_first_lots := x_first_lots, D_first_lots := D_first_lots,
    f_want_at_most := He.ga K "want_at_most", fd_want_at_most := x_want_at_most, D_want_at_most := D_want_at_most,
    f_all_cuts := He.ga K "all_cuts", fd_all_cuts := x_all_cuts, D_all_cuts := D_all_cuts,
    f_law := He.ga K "law", fd_law := x_law, D_law := D_law }, rfl⟩
abbrev R : OpenRow := OpenLaw.row PySem.Challenge.rw_ballcorners_k33_whole_all_cuts
abbrev hk : Hook := hookV 4 fa fn ex
def ob (s : SharedT) : AlV := obsV 4 fa fn ex (HandSHeadRun.getT s)
theorem ob_eq (s : SharedT) : ob s = hk.obs s.abs := obsV_eq (HandSHeadRun.getT_eq s)
def lo0 : List Str := ["BallError", "LimitError", "InvalidWeb", "InvalidCut", "TooMany", "is_integer", "is_count", "is_from_to", "want_at_most", "LEAST_CORNERS", "MOST_CORNERS", "is_pair_below"]
def lo1 : List Str := ["is_web", "want_web", "MOST_LISTED", "is_wide", "is_cut_of", "across_of", "first_lots", "want_cut", "is_cut", "across", "all_cuts", "_law_pot"]
def lo2 : List Str := ["_law_draw", "_law_web", "_law_cuts", "_law_across", "_law_drawn_lot", "_law_one_right"]
abbrev lo : List Str := lo0 ++ lo1 ++ lo2
set_option maxHeartbeats 0 in
theorem run (w : World) : HandSHeadRun.RunEq R (view R.prog [35]) hk ob 40000 lo w := by
  intro os
  kernel_rfl
theorem law_end {w : World} {K : Frag} {h : Heap} {mg : Str → Option Value} {a0 : Addr} (hlaw : ∀ ns : List Int, ns.length ≤ 63 → ∃ us, phi_law [.d (.list (ns.map .int))] = .ok (.d (.bool true)) us) (KX : K.In h) (G : h.Ns mainGlobals mg) (hmg : mg "law" = some (.ref a0)) (c : SaysV fa fn ex K) :
    ∃ (K : Frag) (fd : FuncData) (sp : Sp), K.In h ∧ (∀ (s : Shared) (u : Value), BindsTo s fd ⟨[u], []⟩ [("script", u)]) ∧
      (∀ (H : Hp) (a : Addr) (ns : List Int), ns.length ≤ 63 → Only H → LstN K H a (ns.map V.int) → sp [.ref a] H (fun v _ => v = .bl true) fun _ _ _ => False) ∧
      ∀ base : Heap, K.In base → base.Ns mainGlobals mg → FnG (OpenLaw.row PySem.Challenge.rw_ballcorners_k33_whole_all_cuts).prog w K mg base (L2.CX (OpenLaw.row PySem.Challenge.rw_ballcorners_k33_whole_all_cuts).prog w) 8 a0 fd ["script"] sp := by
  obtain ⟨F, e⟩ := facts KX G c
  cases hmg.symm.trans F.g_law
  have bs := FunD.bindsA (ps := ["script"]) F.D_law fun _ _ _ _ _ _ us hl => match us, hl with | [_], _ => rfl
  exact ⟨K, F.fd_law, spV K 1 phi_law, KX, fun s u => bs s [u] rfl, fun H a ns hl _ hS => law_sp hlaw H a ns hl hS, fun base _ _ => ok_law F⟩
end K33
end
section
set_option Elab.async false
set_option linter.all false
set_option maxRecDepth 100000
namespace Vm
open PySem L2 PySem.W
/-! ### evaluation by rewriting: what is to be done behind is a function, never a term with a variable bound -/
section
variable {α β : Type} {ς ς1 ς2 : Env} {m n ma mb mc : Env → Res Rv} {t u : Env → Res Bool} {A B : Env → Res Fl} {ms mk : Env → Res (List Rv)} {r ra rb : Rv} {rs ks : List Rv} {x y z : PyData} {xs ys : List PyData} {v v1 v2 : U} {us ws : List U} {i j k : Nat} {f g : PyData → PyData → Option PyData} {h : PyData → Option PyData} {a b : Int} {G : U → Env → Option Env} {Gs : List U → Env → Option Env} {e : Ex} {c d : Bool}
theorem get_0 {α : Type} {a0 : α} {l : List α} : (a0 :: l)[0]? = some a0 := rfl
theorem put_0 {α : Type} {a0 b : α} {l : List α} : (a0 :: l).set 0 b = b :: l := rfl
theorem get_1 {α : Type} {a0 a1 : α} {l : List α} : (a0 :: a1 :: l)[1]? = some a1 := rfl
theorem put_1 {α : Type} {a0 a1 b : α} {l : List α} : (a0 :: a1 :: l).set 1 b = a0 :: b :: l := rfl
theorem get_2 {α : Type} {a0 a1 a2 : α} {l : List α} : (a0 :: a1 :: a2 :: l)[2]? = some a2 := rfl
theorem put_2 {α : Type} {a0 a1 a2 b : α} {l : List α} : (a0 :: a1 :: a2 :: l).set 2 b = a0 :: a1 :: b :: l := rfl
theorem get_3 {α : Type} {a0 a1 a2 a3 : α} {l : List α} : (a0 :: a1 :: a2 :: a3 :: l)[3]? = some a3 := rfl
theorem put_3 {α : Type} {a0 a1 a2 a3 b : α} {l : List α} : (a0 :: a1 :: a2 :: a3 :: l).set 3 b = a0 :: a1 :: a2 :: b :: l := rfl
theorem get_4 {α : Type} {a0 a1 a2 a3 a4 : α} {l : List α} : (a0 :: a1 :: a2 :: a3 :: a4 :: l)[4]? = some a4 := rfl
theorem put_4 {α : Type} {a0 a1 a2 a3 a4 b : α} {l : List α} : (a0 :: a1 :: a2 :: a3 :: a4 :: l).set 4 b = a0 :: a1 :: a2 :: a3 :: b :: l := rfl
theorem get_5 {α : Type} {a0 a1 a2 a3 a4 a5 : α} {l : List α} : (a0 :: a1 :: a2 :: a3 :: a4 :: a5 :: l)[5]? = some a5 := rfl
theorem put_5 {α : Type} {a0 a1 a2 a3 a4 a5 b : α} {l : List α} : (a0 :: a1 :: a2 :: a3 :: a4 :: a5 :: l).set 5 b = a0 :: a1 :: a2 :: a3 :: a4 :: b :: l := rfl
theorem get_6 {α : Type} {a0 a1 a2 a3 a4 a5 a6 : α} {l : List α} : (a0 :: a1 :: a2 :: a3 :: a4 :: a5 :: a6 :: l)[6]? = some a6 := rfl
theorem put_6 {α : Type} {a0 a1 a2 a3 a4 a5 a6 b : α} {l : List α} : (a0 :: a1 :: a2 :: a3 :: a4 :: a5 :: a6 :: l).set 6 b = a0 :: a1 :: a2 :: a3 :: a4 :: a5 :: b :: l := rfl
theorem get_7 {α : Type} {a0 a1 a2 a3 a4 a5 a6 a7 : α} {l : List α} : (a0 :: a1 :: a2 :: a3 :: a4 :: a5 :: a6 :: a7 :: l)[7]? = some a7 := rfl
theorem put_7 {α : Type} {a0 a1 a2 a3 a4 a5 a6 a7 b : α} {l : List α} : (a0 :: a1 :: a2 :: a3 :: a4 :: a5 :: a6 :: a7 :: l).set 7 b = a0 :: a1 :: a2 :: a3 :: a4 :: a5 :: a6 :: b :: l := rfl
theorem get_8 {α : Type} {a0 a1 a2 a3 a4 a5 a6 a7 a8 : α} {l : List α} : (a0 :: a1 :: a2 :: a3 :: a4 :: a5 :: a6 :: a7 :: a8 :: l)[8]? = some a8 := rfl
theorem put_8 {α : Type} {a0 a1 a2 a3 a4 a5 a6 a7 a8 b : α} {l : List α} : (a0 :: a1 :: a2 :: a3 :: a4 :: a5 :: a6 :: a7 :: a8 :: l).set 8 b = a0 :: a1 :: a2 :: a3 :: a4 :: a5 :: a6 :: a7 :: b :: l := rfl
theorem get_9 {α : Type} {a0 a1 a2 a3 a4 a5 a6 a7 a8 a9 : α} {l : List α} : (a0 :: a1 :: a2 :: a3 :: a4 :: a5 :: a6 :: a7 :: a8 :: a9 :: l)[9]? = some a9 := rfl
theorem put_9 {α : Type} {a0 a1 a2 a3 a4 a5 a6 a7 a8 a9 b : α} {l : List α} : (a0 :: a1 :: a2 :: a3 :: a4 :: a5 :: a6 :: a7 :: a8 :: a9 :: l).set 9 b = a0 :: a1 :: a2 :: a3 :: a4 :: a5 :: a6 :: a7 :: a8 :: b :: l := rfl
theorem get_10 {α : Type} {a0 a1 a2 a3 a4 a5 a6 a7 a8 a9 a10 : α} {l : List α} : (a0 :: a1 :: a2 :: a3 :: a4 :: a5 :: a6 :: a7 :: a8 :: a9 :: a10 :: l)[10]? = some a10 := rfl
theorem put_10 {α : Type} {a0 a1 a2 a3 a4 a5 a6 a7 a8 a9 a10 b : α} {l : List α} : (a0 :: a1 :: a2 :: a3 :: a4 :: a5 :: a6 :: a7 :: a8 :: a9 :: a10 :: l).set 10 b = a0 :: a1 :: a2 :: a3 :: a4 :: a5 :: a6 :: a7 :: a8 :: a9 :: b :: l := rfl
theorem get_11 {α : Type} {a0 a1 a2 a3 a4 a5 a6 a7 a8 a9 a10 a11 : α} {l : List α} : (a0 :: a1 :: a2 :: a3 :: a4 :: a5 :: a6 :: a7 :: a8 :: a9 :: a10 :: a11 :: l)[11]? = some a11 := rfl
theorem put_11 {α : Type} {a0 a1 a2 a3 a4 a5 a6 a7 a8 a9 a10 a11 b : α} {l : List α} : (a0 :: a1 :: a2 :: a3 :: a4 :: a5 :: a6 :: a7 :: a8 :: a9 :: a10 :: a11 :: l).set 11 b = a0 :: a1 :: a2 :: a3 :: a4 :: a5 :: a6 :: a7 :: a8 :: a9 :: a10 :: b :: l := rfl
theorem get_12 {α : Type} {a0 a1 a2 a3 a4 a5 a6 a7 a8 a9 a10 a11 a12 : α} {l : List α} : (a0 :: a1 :: a2 :: a3 :: a4 :: a5 :: a6 :: a7 :: a8 :: a9 :: a10 :: a11 :: a12 :: l)[12]? = some a12 := rfl
theorem put_12 {α : Type} {a0 a1 a2 a3 a4 a5 a6 a7 a8 a9 a10 a11 a12 b : α} {l : List α} : (a0 :: a1 :: a2 :: a3 :: a4 :: a5 :: a6 :: a7 :: a8 :: a9 :: a10 :: a11 :: a12 :: l).set 12 b = a0 :: a1 :: a2 :: a3 :: a4 :: a5 :: a6 :: a7 :: a8 :: a9 :: a10 :: a11 :: b :: l := rfl
theorem get_13 {α : Type} {a0 a1 a2 a3 a4 a5 a6 a7 a8 a9 a10 a11 a12 a13 : α} {l : List α} : (a0 :: a1 :: a2 :: a3 :: a4 :: a5 :: a6 :: a7 :: a8 :: a9 :: a10 :: a11 :: a12 :: a13 :: l)[13]? = some a13 := rfl
theorem put_13 {α : Type} {a0 a1 a2 a3 a4 a5 a6 a7 a8 a9 a10 a11 a12 a13 b : α} {l : List α} : (a0 :: a1 :: a2 :: a3 :: a4 :: a5 :: a6 :: a7 :: a8 :: a9 :: a10 :: a11 :: a12 :: a13 :: l).set 13 b = a0 :: a1 :: a2 :: a3 :: a4 :: a5 :: a6 :: a7 :: a8 :: a9 :: a10 :: a11 :: a12 :: b :: l := rfl
theorem get_14 {α : Type} {a0 a1 a2 a3 a4 a5 a6 a7 a8 a9 a10 a11 a12 a13 a14 : α} {l : List α} : (a0 :: a1 :: a2 :: a3 :: a4 :: a5 :: a6 :: a7 :: a8 :: a9 :: a10 :: a11 :: a12 :: a13 :: a14 :: l)[14]? = some a14 := rfl
theorem put_14 {α : Type} {a0 a1 a2 a3 a4 a5 a6 a7 a8 a9 a10 a11 a12 a13 a14 b : α} {l : List α} : (a0 :: a1 :: a2 :: a3 :: a4 :: a5 :: a6 :: a7 :: a8 :: a9 :: a10 :: a11 :: a12 :: a13 :: a14 :: l).set 14 b = a0 :: a1 :: a2 :: a3 :: a4 :: a5 :: a6 :: a7 :: a8 :: a9 :: a10 :: a11 :: a12 :: a13 :: b :: l := rfl
theorem get_15 {α : Type} {a0 a1 a2 a3 a4 a5 a6 a7 a8 a9 a10 a11 a12 a13 a14 a15 : α} {l : List α} : (a0 :: a1 :: a2 :: a3 :: a4 :: a5 :: a6 :: a7 :: a8 :: a9 :: a10 :: a11 :: a12 :: a13 :: a14 :: a15 :: l)[15]? = some a15 := rfl
theorem put_15 {α : Type} {a0 a1 a2 a3 a4 a5 a6 a7 a8 a9 a10 a11 a12 a13 a14 a15 b : α} {l : List α} : (a0 :: a1 :: a2 :: a3 :: a4 :: a5 :: a6 :: a7 :: a8 :: a9 :: a10 :: a11 :: a12 :: a13 :: a14 :: a15 :: l).set 15 b = a0 :: a1 :: a2 :: a3 :: a4 :: a5 :: a6 :: a7 :: a8 :: a9 :: a10 :: a11 :: a12 :: a13 :: a14 :: b :: l := rfl
theorem get_16 {α : Type} {a0 a1 a2 a3 a4 a5 a6 a7 a8 a9 a10 a11 a12 a13 a14 a15 a16 : α} {l : List α} : (a0 :: a1 :: a2 :: a3 :: a4 :: a5 :: a6 :: a7 :: a8 :: a9 :: a10 :: a11 :: a12 :: a13 :: a14 :: a15 :: a16 :: l)[16]? = some a16 := rfl
theorem put_16 {α : Type} {a0 a1 a2 a3 a4 a5 a6 a7 a8 a9 a10 a11 a12 a13 a14 a15 a16 b : α} {l : List α} : (a0 :: a1 :: a2 :: a3 :: a4 :: a5 :: a6 :: a7 :: a8 :: a9 :: a10 :: a11 :: a12 :: a13 :: a14 :: a15 :: a16 :: l).set 16 b = a0 :: a1 :: a2 :: a3 :: a4 :: a5 :: a6 :: a7 :: a8 :: a9 :: a10 :: a11 :: a12 :: a13 :: a14 :: a15 :: b :: l := rfl
theorem get_17 {α : Type} {a0 a1 a2 a3 a4 a5 a6 a7 a8 a9 a10 a11 a12 a13 a14 a15 a16 a17 : α} {l : List α} : (a0 :: a1 :: a2 :: a3 :: a4 :: a5 :: a6 :: a7 :: a8 :: a9 :: a10 :: a11 :: a12 :: a13 :: a14 :: a15 :: a16 :: a17 :: l)[17]? = some a17 := rfl
theorem put_17 {α : Type} {a0 a1 a2 a3 a4 a5 a6 a7 a8 a9 a10 a11 a12 a13 a14 a15 a16 a17 b : α} {l : List α} : (a0 :: a1 :: a2 :: a3 :: a4 :: a5 :: a6 :: a7 :: a8 :: a9 :: a10 :: a11 :: a12 :: a13 :: a14 :: a15 :: a16 :: a17 :: l).set 17 b = a0 :: a1 :: a2 :: a3 :: a4 :: a5 :: a6 :: a7 :: a8 :: a9 :: a10 :: a11 :: a12 :: a13 :: a14 :: a15 :: a16 :: b :: l := rfl
theorem get_18 {α : Type} {a0 a1 a2 a3 a4 a5 a6 a7 a8 a9 a10 a11 a12 a13 a14 a15 a16 a17 a18 : α} {l : List α} : (a0 :: a1 :: a2 :: a3 :: a4 :: a5 :: a6 :: a7 :: a8 :: a9 :: a10 :: a11 :: a12 :: a13 :: a14 :: a15 :: a16 :: a17 :: a18 :: l)[18]? = some a18 := rfl
theorem put_18 {α : Type} {a0 a1 a2 a3 a4 a5 a6 a7 a8 a9 a10 a11 a12 a13 a14 a15 a16 a17 a18 b : α} {l : List α} : (a0 :: a1 :: a2 :: a3 :: a4 :: a5 :: a6 :: a7 :: a8 :: a9 :: a10 :: a11 :: a12 :: a13 :: a14 :: a15 :: a16 :: a17 :: a18 :: l).set 18 b = a0 :: a1 :: a2 :: a3 :: a4 :: a5 :: a6 :: a7 :: a8 :: a9 :: a10 :: a11 :: a12 :: a13 :: a14 :: a15 :: a16 :: a17 :: b :: l := rfl
theorem get_19 {α : Type} {a0 a1 a2 a3 a4 a5 a6 a7 a8 a9 a10 a11 a12 a13 a14 a15 a16 a17 a18 a19 : α} {l : List α} : (a0 :: a1 :: a2 :: a3 :: a4 :: a5 :: a6 :: a7 :: a8 :: a9 :: a10 :: a11 :: a12 :: a13 :: a14 :: a15 :: a16 :: a17 :: a18 :: a19 :: l)[19]? = some a19 := rfl
theorem put_19 {α : Type} {a0 a1 a2 a3 a4 a5 a6 a7 a8 a9 a10 a11 a12 a13 a14 a15 a16 a17 a18 a19 b : α} {l : List α} : (a0 :: a1 :: a2 :: a3 :: a4 :: a5 :: a6 :: a7 :: a8 :: a9 :: a10 :: a11 :: a12 :: a13 :: a14 :: a15 :: a16 :: a17 :: a18 :: a19 :: l).set 19 b = a0 :: a1 :: a2 :: a3 :: a4 :: a5 :: a6 :: a7 :: a8 :: a9 :: a10 :: a11 :: a12 :: a13 :: a14 :: a15 :: a16 :: a17 :: a18 :: b :: l := rfl
theorem get_20 {α : Type} {a0 a1 a2 a3 a4 a5 a6 a7 a8 a9 a10 a11 a12 a13 a14 a15 a16 a17 a18 a19 a20 : α} {l : List α} : (a0 :: a1 :: a2 :: a3 :: a4 :: a5 :: a6 :: a7 :: a8 :: a9 :: a10 :: a11 :: a12 :: a13 :: a14 :: a15 :: a16 :: a17 :: a18 :: a19 :: a20 :: l)[20]? = some a20 := rfl
theorem put_20 {α : Type} {a0 a1 a2 a3 a4 a5 a6 a7 a8 a9 a10 a11 a12 a13 a14 a15 a16 a17 a18 a19 a20 b : α} {l : List α} : (a0 :: a1 :: a2 :: a3 :: a4 :: a5 :: a6 :: a7 :: a8 :: a9 :: a10 :: a11 :: a12 :: a13 :: a14 :: a15 :: a16 :: a17 :: a18 :: a19 :: a20 :: l).set 20 b = a0 :: a1 :: a2 :: a3 :: a4 :: a5 :: a6 :: a7 :: a8 :: a9 :: a10 :: a11 :: a12 :: a13 :: a14 :: a15 :: a16 :: a17 :: a18 :: a19 :: b :: l := rfl
theorem get_21 {α : Type} {a0 a1 a2 a3 a4 a5 a6 a7 a8 a9 a10 a11 a12 a13 a14 a15 a16 a17 a18 a19 a20 a21 : α} {l : List α} : (a0 :: a1 :: a2 :: a3 :: a4 :: a5 :: a6 :: a7 :: a8 :: a9 :: a10 :: a11 :: a12 :: a13 :: a14 :: a15 :: a16 :: a17 :: a18 :: a19 :: a20 :: a21 :: l)[21]? = some a21 := rfl
theorem put_21 {α : Type} {a0 a1 a2 a3 a4 a5 a6 a7 a8 a9 a10 a11 a12 a13 a14 a15 a16 a17 a18 a19 a20 a21 b : α} {l : List α} : (a0 :: a1 :: a2 :: a3 :: a4 :: a5 :: a6 :: a7 :: a8 :: a9 :: a10 :: a11 :: a12 :: a13 :: a14 :: a15 :: a16 :: a17 :: a18 :: a19 :: a20 :: a21 :: l).set 21 b = a0 :: a1 :: a2 :: a3 :: a4 :: a5 :: a6 :: a7 :: a8 :: a9 :: a10 :: a11 :: a12 :: a13 :: a14 :: a15 :: a16 :: a17 :: a18 :: a19 :: a20 :: b :: l := rfl
theorem get_22 {α : Type} {a0 a1 a2 a3 a4 a5 a6 a7 a8 a9 a10 a11 a12 a13 a14 a15 a16 a17 a18 a19 a20 a21 a22 : α} {l : List α} : (a0 :: a1 :: a2 :: a3 :: a4 :: a5 :: a6 :: a7 :: a8 :: a9 :: a10 :: a11 :: a12 :: a13 :: a14 :: a15 :: a16 :: a17 :: a18 :: a19 :: a20 :: a21 :: a22 :: l)[22]? = some a22 := rfl
theorem put_22 {α : Type} {a0 a1 a2 a3 a4 a5 a6 a7 a8 a9 a10 a11 a12 a13 a14 a15 a16 a17 a18 a19 a20 a21 a22 b : α} {l : List α} : (a0 :: a1 :: a2 :: a3 :: a4 :: a5 :: a6 :: a7 :: a8 :: a9 :: a10 :: a11 :: a12 :: a13 :: a14 :: a15 :: a16 :: a17 :: a18 :: a19 :: a20 :: a21 :: a22 :: l).set 22 b = a0 :: a1 :: a2 :: a3 :: a4 :: a5 :: a6 :: a7 :: a8 :: a9 :: a10 :: a11 :: a12 :: a13 :: a14 :: a15 :: a16 :: a17 :: a18 :: a19 :: a20 :: a21 :: b :: l := rfl
theorem get_23 {α : Type} {a0 a1 a2 a3 a4 a5 a6 a7 a8 a9 a10 a11 a12 a13 a14 a15 a16 a17 a18 a19 a20 a21 a22 a23 : α} {l : List α} : (a0 :: a1 :: a2 :: a3 :: a4 :: a5 :: a6 :: a7 :: a8 :: a9 :: a10 :: a11 :: a12 :: a13 :: a14 :: a15 :: a16 :: a17 :: a18 :: a19 :: a20 :: a21 :: a22 :: a23 :: l)[23]? = some a23 := rfl
theorem put_23 {α : Type} {a0 a1 a2 a3 a4 a5 a6 a7 a8 a9 a10 a11 a12 a13 a14 a15 a16 a17 a18 a19 a20 a21 a22 a23 b : α} {l : List α} : (a0 :: a1 :: a2 :: a3 :: a4 :: a5 :: a6 :: a7 :: a8 :: a9 :: a10 :: a11 :: a12 :: a13 :: a14 :: a15 :: a16 :: a17 :: a18 :: a19 :: a20 :: a21 :: a22 :: a23 :: l).set 23 b = a0 :: a1 :: a2 :: a3 :: a4 :: a5 :: a6 :: a7 :: a8 :: a9 :: a10 :: a11 :: a12 :: a13 :: a14 :: a15 :: a16 :: a17 :: a18 :: a19 :: a20 :: a21 :: a22 :: b :: l := rfl
theorem get_24 {α : Type} {a0 a1 a2 a3 a4 a5 a6 a7 a8 a9 a10 a11 a12 a13 a14 a15 a16 a17 a18 a19 a20 a21 a22 a23 a24 : α} {l : List α} : (a0 :: a1 :: a2 :: a3 :: a4 :: a5 :: a6 :: a7 :: a8 :: a9 :: a10 :: a11 :: a12 :: a13 :: a14 :: a15 :: a16 :: a17 :: a18 :: a19 :: a20 :: a21 :: a22 :: a23 :: a24 :: l)[24]? = some a24 := rfl
theorem put_24 {α : Type} {a0 a1 a2 a3 a4 a5 a6 a7 a8 a9 a10 a11 a12 a13 a14 a15 a16 a17 a18 a19 a20 a21 a22 a23 a24 b : α} {l : List α} : (a0 :: a1 :: a2 :: a3 :: a4 :: a5 :: a6 :: a7 :: a8 :: a9 :: a10 :: a11 :: a12 :: a13 :: a14 :: a15 :: a16 :: a17 :: a18 :: a19 :: a20 :: a21 :: a22 :: a23 :: a24 :: l).set 24 b = a0 :: a1 :: a2 :: a3 :: a4 :: a5 :: a6 :: a7 :: a8 :: a9 :: a10 :: a11 :: a12 :: a13 :: a14 :: a15 :: a16 :: a17 :: a18 :: a19 :: a20 :: a21 :: a22 :: a23 :: b :: l := rfl
theorem get_25 {α : Type} {a0 a1 a2 a3 a4 a5 a6 a7 a8 a9 a10 a11 a12 a13 a14 a15 a16 a17 a18 a19 a20 a21 a22 a23 a24 a25 : α} {l : List α} : (a0 :: a1 :: a2 :: a3 :: a4 :: a5 :: a6 :: a7 :: a8 :: a9 :: a10 :: a11 :: a12 :: a13 :: a14 :: a15 :: a16 :: a17 :: a18 :: a19 :: a20 :: a21 :: a22 :: a23 :: a24 :: a25 :: l)[25]? = some a25 := rfl
theorem put_25 {α : Type} {a0 a1 a2 a3 a4 a5 a6 a7 a8 a9 a10 a11 a12 a13 a14 a15 a16 a17 a18 a19 a20 a21 a22 a23 a24 a25 b : α} {l : List α} : (a0 :: a1 :: a2 :: a3 :: a4 :: a5 :: a6 :: a7 :: a8 :: a9 :: a10 :: a11 :: a12 :: a13 :: a14 :: a15 :: a16 :: a17 :: a18 :: a19 :: a20 :: a21 :: a22 :: a23 :: a24 :: a25 :: l).set 25 b = a0 :: a1 :: a2 :: a3 :: a4 :: a5 :: a6 :: a7 :: a8 :: a9 :: a10 :: a11 :: a12 :: a13 :: a14 :: a15 :: a16 :: a17 :: a18 :: a19 :: a20 :: a21 :: a22 :: a23 :: a24 :: b :: l := rfl
theorem at_0 {α : Type} {a0 : α} {l : List α} : atI (a0 :: l) 0 = some a0 := by
  have e : ixN (a0 :: l).length 0 = some 0 := by
    unfold ixN
    rw [if_pos (by decide), if_pos (by simp only [List.length_cons]; omega)]
    rfl
  unfold atI
  rw [e]; rfl
theorem ix_0 {α : Type} {a0 : α} {l : List α} : ixN (a0 :: l).length 0 = some 0 := by
  unfold ixN
  rw [if_pos (by decide), if_pos (by simp only [List.length_cons]; omega)]
  rfl
theorem at_1 {α : Type} {a0 a1 : α} {l : List α} : atI (a0 :: a1 :: l) 1 = some a1 := by
  have e : ixN (a0 :: a1 :: l).length 1 = some 1 := by
    unfold ixN
    rw [if_pos (by decide), if_pos (by simp only [List.length_cons]; omega)]
    rfl
  unfold atI
  rw [e]; rfl
theorem ix_1 {α : Type} {a0 a1 : α} {l : List α} : ixN (a0 :: a1 :: l).length 1 = some 1 := by
  unfold ixN
  rw [if_pos (by decide), if_pos (by simp only [List.length_cons]; omega)]
  rfl
theorem at_2 {α : Type} {a0 a1 a2 : α} {l : List α} : atI (a0 :: a1 :: a2 :: l) 2 = some a2 := by
  have e : ixN (a0 :: a1 :: a2 :: l).length 2 = some 2 := by
    unfold ixN
    rw [if_pos (by decide), if_pos (by simp only [List.length_cons]; omega)]
    rfl
  unfold atI
  rw [e]; rfl
theorem ix_2 {α : Type} {a0 a1 a2 : α} {l : List α} : ixN (a0 :: a1 :: a2 :: l).length 2 = some 2 := by
  unfold ixN
  rw [if_pos (by decide), if_pos (by simp only [List.length_cons]; omega)]
  rfl
theorem at_3 {α : Type} {a0 a1 a2 a3 : α} {l : List α} : atI (a0 :: a1 :: a2 :: a3 :: l) 3 = some a3 := by
  have e : ixN (a0 :: a1 :: a2 :: a3 :: l).length 3 = some 3 := by
    unfold ixN
    rw [if_pos (by decide), if_pos (by simp only [List.length_cons]; omega)]
    rfl
  unfold atI
  rw [e]; rfl
theorem ix_3 {α : Type} {a0 a1 a2 a3 : α} {l : List α} : ixN (a0 :: a1 :: a2 :: a3 :: l).length 3 = some 3 := by
  unfold ixN
  rw [if_pos (by decide), if_pos (by simp only [List.length_cons]; omega)]
  rfl
theorem at_4 {α : Type} {a0 a1 a2 a3 a4 : α} {l : List α} : atI (a0 :: a1 :: a2 :: a3 :: a4 :: l) 4 = some a4 := by
  have e : ixN (a0 :: a1 :: a2 :: a3 :: a4 :: l).length 4 = some 4 := by
    unfold ixN
    rw [if_pos (by decide), if_pos (by simp only [List.length_cons]; omega)]
    rfl
  unfold atI
  rw [e]; rfl
theorem ix_4 {α : Type} {a0 a1 a2 a3 a4 : α} {l : List α} : ixN (a0 :: a1 :: a2 :: a3 :: a4 :: l).length 4 = some 4 := by
  unfold ixN
  rw [if_pos (by decide), if_pos (by simp only [List.length_cons]; omega)]
  rfl
theorem at_5 {α : Type} {a0 a1 a2 a3 a4 a5 : α} {l : List α} : atI (a0 :: a1 :: a2 :: a3 :: a4 :: a5 :: l) 5 = some a5 := by
  have e : ixN (a0 :: a1 :: a2 :: a3 :: a4 :: a5 :: l).length 5 = some 5 := by
    unfold ixN
    rw [if_pos (by decide), if_pos (by simp only [List.length_cons]; omega)]
    rfl
  unfold atI
  rw [e]; rfl
theorem ix_5 {α : Type} {a0 a1 a2 a3 a4 a5 : α} {l : List α} : ixN (a0 :: a1 :: a2 :: a3 :: a4 :: a5 :: l).length 5 = some 5 := by
  unfold ixN
  rw [if_pos (by decide), if_pos (by simp only [List.length_cons]; omega)]
  rfl
theorem at_6 {α : Type} {a0 a1 a2 a3 a4 a5 a6 : α} {l : List α} : atI (a0 :: a1 :: a2 :: a3 :: a4 :: a5 :: a6 :: l) 6 = some a6 := by
  have e : ixN (a0 :: a1 :: a2 :: a3 :: a4 :: a5 :: a6 :: l).length 6 = some 6 := by
    unfold ixN
    rw [if_pos (by decide), if_pos (by simp only [List.length_cons]; omega)]
    rfl
  unfold atI
  rw [e]; rfl
theorem ix_6 {α : Type} {a0 a1 a2 a3 a4 a5 a6 : α} {l : List α} : ixN (a0 :: a1 :: a2 :: a3 :: a4 :: a5 :: a6 :: l).length 6 = some 6 := by
  unfold ixN
  rw [if_pos (by decide), if_pos (by simp only [List.length_cons]; omega)]
  rfl
theorem at_7 {α : Type} {a0 a1 a2 a3 a4 a5 a6 a7 : α} {l : List α} : atI (a0 :: a1 :: a2 :: a3 :: a4 :: a5 :: a6 :: a7 :: l) 7 = some a7 := by
  have e : ixN (a0 :: a1 :: a2 :: a3 :: a4 :: a5 :: a6 :: a7 :: l).length 7 = some 7 := by
    unfold ixN
    rw [if_pos (by decide), if_pos (by simp only [List.length_cons]; omega)]
    rfl
  unfold atI
  rw [e]; rfl
theorem ix_7 {α : Type} {a0 a1 a2 a3 a4 a5 a6 a7 : α} {l : List α} : ixN (a0 :: a1 :: a2 :: a3 :: a4 :: a5 :: a6 :: a7 :: l).length 7 = some 7 := by
  unfold ixN
  rw [if_pos (by decide), if_pos (by simp only [List.length_cons]; omega)]
  rfl
theorem at_8 {α : Type} {a0 a1 a2 a3 a4 a5 a6 a7 a8 : α} {l : List α} : atI (a0 :: a1 :: a2 :: a3 :: a4 :: a5 :: a6 :: a7 :: a8 :: l) 8 = some a8 := by
  have e : ixN (a0 :: a1 :: a2 :: a3 :: a4 :: a5 :: a6 :: a7 :: a8 :: l).length 8 = some 8 := by
    unfold ixN
    rw [if_pos (by decide), if_pos (by simp only [List.length_cons]; omega)]
    rfl
  unfold atI
  rw [e]; rfl
theorem ix_8 {α : Type} {a0 a1 a2 a3 a4 a5 a6 a7 a8 : α} {l : List α} : ixN (a0 :: a1 :: a2 :: a3 :: a4 :: a5 :: a6 :: a7 :: a8 :: l).length 8 = some 8 := by
  unfold ixN
  rw [if_pos (by decide), if_pos (by simp only [List.length_cons]; omega)]
  rfl
theorem ev_bind {a : α} {k : α → Env → Res β} : (Res.ok a ς).bind k = k a ς := rfl
theorem ev_bindx {k : α → Env → Res β} : (Res.exc e ς : Res α).bind k = .exc e ς := rfl
theorem ev_binds {k : α → Env → Res β} : (Res.stuck : Res α).bind k = .stuck := rfl
def seqK (n : Env → Res Fl) (r : Res Fl) : Res Fl := match r with
  | .ok .next ς1 => n ς1
  | r => r
theorem ev_seq : mSeq A B ς = seqK B (A ς) := rfl
theorem seqK_n : seqK B (.ok .next ς) = B ς := rfl
theorem seqK_r : seqK B (.ok (.ret v) ς) = .ok (.ret v) ς := rfl
theorem seqK_b : seqK B (.ok .brk ς) = .ok .brk ς := rfl
theorem seqK_c : seqK B (.ok .cont ς) = .ok .cont ς := rfl
theorem seqK_x : seqK B (.exc e ς) = .exc e ς := rfl
theorem ev_next : mNext ς = .ok .next ς := rfl
theorem ev_brk : mBrk ς = .ok .brk ς := rfl
theorem ev_cnt : mCnt ς = .ok .cont ς := rfl
theorem ev_yes : mYes ς = .ok true ς := rfl
def ifK {α : Type} (ma mb : Env → Res α) (b : Bool) (ς : Env) : Res α := if b then ma ς else mb ς
theorem ev_if {ma mb : Env → Res α} : mIf t ma mb ς = (t ς).bind (ifK ma mb) := rfl
theorem ifK_t {ma mb : Env → Res α} : ifK ma mb true ς = ma ς := rfl
theorem ifK_f {ma mb : Env → Res α} : ifK ma mb false ς = mb ς := rfl
def notK (b : Bool) (ς : Env) : Res Bool := .ok (!b) ς
theorem ev_not : mNot t ς = (t ς).bind notK := rfl
theorem notK_ : notK c ς = .ok (!c) ς := rfl
def andK (u : Env → Res Bool) (b : Bool) (ς : Env) : Res Bool := if b then u ς else .ok false ς
theorem ev_and : mAnd t u ς = (t ς).bind (andK u) := rfl
theorem andK_t : andK u true ς = u ς := rfl
theorem andK_f : andK u false ς = .ok false ς := rfl
def orK (u : Env → Res Bool) (b : Bool) (ς : Env) : Res Bool := if b then .ok true ς else u ς
theorem ev_or : mOr t u ς = (t ς).bind (orK u) := rfl
theorem orK_t : orK u true ς = .ok true ς := rfl
theorem orK_f : orK u false ς = u ς := rfl
def rbK : Option PyData → Option Bool
  | some (.bool c) => some c
  | _ => none
theorem ev_rB : rB r ς = rbK (pk1 some r ς) := rfl
theorem rbK_ : rbK (some (.bool c)) = some c := rfl
def andV (mb : Env → Res Rv) (o : Option Bool) (ς : Env) : Res Rv := match o with
  | some true => mb ς
  | some false => .ok (.tm (.d (.bool false))) ς
  | none => .stuck
def andW (mb : Env → Res Rv) (r : Rv) (ς : Env) : Res Rv := andV mb (rB r ς) ς
theorem ev_andV : mAndV ma mb ς = (ma ς).bind (andW mb) := rfl
theorem andW_ : andW mb r ς = andV mb (rB r ς) ς := rfl
theorem andV_t : andV mb (some true) ς = mb ς := rfl
theorem andV_f : andV mb (some false) ς = .ok (.tm (.d (.bool false))) ς := rfl
def orV (mb : Env → Res Rv) (o : Option Bool) (ς : Env) : Res Rv := match o with
  | some false => mb ς
  | some true => .ok (.tm (.d (.bool true))) ς
  | none => .stuck
def orW (mb : Env → Res Rv) (r : Rv) (ς : Env) : Res Rv := orV mb (rB r ς) ς
theorem ev_orV : mOrV ma mb ς = (ma ς).bind (orW mb) := rfl
theorem orW_ : orW mb r ς = orV mb (rB r ς) ς := rfl
theorem orV_t : orV mb (some true) ς = .ok (.tm (.d (.bool true))) ς := rfl
theorem orV_f : orV mb (some false) ς = mb ς := rfl
def notVK (o : Option Bool) (ς : Env) : Res Rv := match o with
  | some b => .ok (.tm (.d (.bool (!b)))) ς
  | none => .stuck
def notW (r : Rv) (ς : Env) : Res Rv := notVK (rB r ς) ς
theorem ev_notV : mNotV ma ς = (ma ς).bind notW := rfl
theorem notW_ : notW r ς = notVK (rB r ς) ς := rfl
theorem notVK_ : notVK (some c) ς = .ok (.tm (.d (.bool (!c)))) ς := rfl
def varK (i : Nat) (ς : Env) : Option (Option U) → Res Rv
  | some (some _) => .ok (.pl i) ς
  | _ => .stuck
theorem ev_var : mVar i ς = varK i ς ς[i]? := rfl
theorem varK_ : varK i ς (some (some v)) = .ok (.pl i) ς := rfl
theorem ev_c : mC x ς = .ok (.tm (.d x)) ς := rfl
theorem ev_u : mU v ς = .ok (.tm v) ς := rfl
def pkK : Option (Option U) → Option U
  | some (some u) => some u
  | _ => none
theorem peek_tm : Rv.peek ς (.tm v) = some v := rfl
theorem peek_pl : Rv.peek ς (.pl i) = pkK ς[i]? := rfl
theorem pkK_ : pkK (some (some v)) = some v := rfl
def p1O {α : Type} (f : PyData → Option α) : Option (List PyData) → Option α
  | some xs => f (.list xs)
  | none => none
def p1K {α : Type} (f : PyData → Option α) : Option U → Option α
  | some u => match u.toD with
    | some x => f x
    | none => none
  | none => none
theorem ev_pk1 {f : PyData → Option α} : pk1 f r ς = p1K f (r.peek ς) := rfl
theorem p1K_d {f : PyData → Option α} : p1K f (some (.d x)) = f x := rfl
theorem p1K_o {f : PyData → Option α} : p1K f (some (.own us)) = p1O f (U.toDs us) := by
  unfold p1K p1O
  simp only [U.toD]
  cases U.toDs us <;> rfl
theorem p1O_ {f : PyData → Option α} : p1O f (some xs) = f (.list xs) := rfl
def tdK (x : PyData) : Option (List PyData) → Option (List PyData)
  | some xs => some (x :: xs)
  | none => none
theorem toDs_n : U.toDs [] = some [] := by simp only [U.toDs]
theorem toDs_c : U.toDs (.d x :: us) = tdK x (U.toDs us) := by
  simp only [U.toDs, U.toD]
  cases U.toDs us <;> rfl
def tdO : Option (List PyData) → Option (List PyData) → Option (List PyData)
  | some x, some xs => some (.list x :: xs)
  | _, _ => none
theorem toDs_o : U.toDs (.own ws :: us) = tdO (U.toDs ws) (U.toDs us) := by
  simp only [U.toDs, U.toD]
  cases U.toDs us <;> cases U.toDs ws <;> rfl
theorem tdO_ : tdO (some xs) (some ys) = some (.list xs :: ys) := rfl
theorem tdK_ : tdK x (some xs) = some (x :: xs) := rfl
theorem toDs_m : U.toDs (xs.map .d) = some xs := by
  induction xs with
  | nil => simp only [List.map_nil, U.toDs]
  | cons a xs ih => rw [List.map_cons, toDs_c, ih]; rfl
def toDK (us : List U) : Option PyData := (U.toDs us).map .list
def p2K {α : Type} (f : PyData → PyData → Option α) : Option U → Option U → Option α
  | some u, some w => match u.toD, w.toD with
    | some x, some y => f x y
    | _, _ => none
  | _, _ => none
def p2A {α : Type} (f : PyData → PyData → Option α) : Option (List PyData) → PyData → Option α
  | some xs, y => f (.list xs) y
  | none, _ => none
def p2B {α : Type} (f : PyData → PyData → Option α) : PyData → Option (List PyData) → Option α
  | x, some ys => f x (.list ys)
  | _, none => none
def p2C {α : Type} (f : PyData → PyData → Option α) : Option (List PyData) → Option (List PyData) → Option α
  | some xs, some ys => f (.list xs) (.list ys)
  | _, _ => none
theorem ev_pk2 {f : PyData → PyData → Option α} : pk2 f ra rb ς = p2K f (ra.peek ς) (rb.peek ς) := rfl
theorem p2K_dd {f : PyData → PyData → Option α} : p2K f (some (.d x)) (some (.d y)) = f x y := rfl
theorem p2K_od {f : PyData → PyData → Option α} : p2K f (some (.own us)) (some (.d y)) = p2A f (U.toDs us) y := by
  unfold p2K p2A
  simp only [U.toD]
  cases U.toDs us <;> rfl
theorem p2K_do {f : PyData → PyData → Option α} : p2K f (some (.d x)) (some (.own us)) = p2B f x (U.toDs us) := by
  unfold p2K p2B
  simp only [U.toD]
  cases U.toDs us <;> rfl
theorem p2K_oo {f : PyData → PyData → Option α} : p2K f (some (.own ws)) (some (.own us)) = p2C f (U.toDs ws) (U.toDs us) := by
  unfold p2K p2C
  simp only [U.toD]
  cases U.toDs us <;> cases U.toDs ws <;> rfl
theorem p2A_ {f : PyData → PyData → Option α} : p2A f (some xs) y = f (.list xs) y := rfl
theorem p2B_ {f : PyData → PyData → Option α} : p2B f x (some xs) = f x (.list xs) := rfl
theorem p2C_ {f : PyData → PyData → Option α} : p2C f (some xs) (some ys) = f (.list xs) (.list ys) := rfl
def scK (o : Option PyData) (ς : Env) : Res Rv := match o with
  | some c => .ok (.tm (.d c)) ς
  | none => .stuck
def tsK (o : Option PyData) (ς : Env) : Res Bool := match o with
  | some (.bool c) => .ok c ς
  | _ => .stuck
theorem ev_kSc : kSc f ra rb ς = scK (pk2 f ra rb ς) ς := rfl
theorem scK_ : scK (some x) ς = .ok (.tm (.d x)) ς := rfl
theorem ev_kTs : kTs f ra rb ς = tsK (pk2 f ra rb ς) ς := rfl
theorem tsK_ : tsK (some (.bool c)) ς = .ok c ς := rfl
theorem ev_kSc1 : kSc1 h ra ς = scK (pk1 h ra ς) ς := rfl
theorem ev_kB : kB ra ς = tsK (pk1 some ra ς) ς := rfl
theorem ev_mB : mB ma ς = (ma ς).bind kB := rfl
theorem ev_toT : toT ma ς = (ma ς).bind kB := rfl
def m2K {α : Type} (mb : Env → Res Rv) (k : Rv → Rv → Env → Res α) (ra : Rv) (ς : Env) : Res α := (mb ς).bind (k ra)
theorem ev_m2 {k : Rv → Rv → Env → Res α} : m2 ma mb k ς = (ma ς).bind (m2K mb k) := rfl
theorem m2K_ {k : Rv → Rv → Env → Res α} : m2K mb k ra ς = (mb ς).bind (k ra) := rfl
theorem ev_m1 {k : Rv → Env → Res α} : m1 ma k ς = (ma ς).bind k := rfl
theorem ev_op : mOp f ma mb ς = (ma ς).bind (m2K mb (kSc f)) := rfl
theorem ev_ts : mTs f ma mb ς = (ma ς).bind (m2K mb (kTs f)) := rfl
theorem ev_un : mUn h ma ς = (ma ς).bind (kSc1 h) := rfl
def consK (ms : Env → Res (List Rv)) (r : Rv) (ς : Env) : Res (List Rv) := (ms ς).bind fun rs ς2 => .ok (r :: rs) ς2
def consK2 (r : Rv) (rs : List Rv) (ς : Env) : Res (List Rv) := .ok (r :: rs) ς
theorem ev_nil : mNil ς = .ok [] ς := rfl
theorem ev_cons : mCons m ms ς = (m ς).bind (consK ms) := rfl
theorem consK_ : consK ms r ς = (ms ς).bind (consK2 r) := rfl
theorem consK2_ : consK2 r rs ς = .ok (r :: rs) ς := rfl
theorem ev_mA {k : List Rv → Env → Res α} : mA ms k ς = (ms ς).bind k := rfl
def shO (i : Nat) (ς : Env) : Option (List PyData) → Option (U × Env)
  | some xs => some (.d (.list xs), ς.set i (some (.d (.list xs))))
  | none => none
def shK (i : Nat) (ς : Env) : Option (Option U) → Option (U × Env)
  | some (some u) => if u.sh then some (u, ς) else match u.toD with
    | some x => some (.d x, ς.set i (some (.d x)))
    | none => none
  | _ => none
theorem share_tm : Rv.share ς (.tm v) = some (v, ς) := rfl
theorem share_pl : Rv.share ς (.pl i) = shK i ς ς[i]? := rfl
theorem shK_d : shK i ς (some (some (.d x))) = some (.d x, ς) := rfl
theorem shK_o : shK i ς (some (some (.own us))) = shO i ς (U.toDs us) := by
  unfold shK shO
  simp only [U.sh, U.toD]
  cases U.toDs us <;> rfl
theorem shO_ : shO i ς (some xs) = some (.d (.list xs), ς.set i (some (.d (.list xs)))) := rfl
def sdO : Option (List PyData) → Env → Option (PyData × Env)
  | some xs, ς => some (.list xs, ς)
  | none, _ => none
def sdK : Option (U × Env) → Option (PyData × Env)
  | some (u, ς') => match u.toD with
    | some x => some (x, ς')
    | none => none
  | none => none
theorem ev_shareD : Rv.shareD ς r = sdK (r.share ς) := rfl
theorem sdK_d : sdK (some (.d x, ς)) = some (x, ς) := rfl
theorem sdK_o : sdK (some (.own us, ς)) = sdO (U.toDs us) ς := by
  unfold sdK sdO
  simp only [U.toD]
  cases U.toDs us <;> rfl
theorem sdO_ : sdO (some xs) ς = some (.list xs, ς) := rfl
def shsB (u : U) : Option (List U × Env) → Option (List U × Env)
  | some (us, ς) => some (u :: us, ς)
  | none => none
def shsA (rs : List Rv) : Option (U × Env) → Option (List U × Env)
  | some (u, ς) => match shares rs ς with
    | some (us, ς) => some (u :: us, ς)
    | none => none
  | none => none
theorem shs_n : shares [] ς = some ([], ς) := rfl
theorem shs_c : shares (r :: rs) ς = shsA rs (r.share ς) := rfl
theorem shsA_ : shsA rs (some (v, ς)) = shsB v (shares rs ς) := rfl
theorem shsB_ : shsB v (some (us, ς)) = some (v :: us, ς) := rfl
def shdB (u : PyData) : Option (List PyData × Env) → Option (List PyData × Env)
  | some (us, ς) => some (u :: us, ς)
  | none => none
def shdA (rs : List Rv) : Option (PyData × Env) → Option (List PyData × Env)
  | some (u, ς) => match sharesD rs ς with
    | some (us, ς) => some (u :: us, ς)
    | none => none
  | none => none
theorem shd_n : sharesD [] ς = some ([], ς) := rfl
theorem shd_c : sharesD (r :: rs) ς = shdA rs (r.shareD ς) := rfl
theorem shdA_ : shdA rs (some (x, ς)) = shdB x (sharesD rs ς) := rfl
theorem shdB_ : shdB x (some (xs, ς)) = some (x :: xs, ς) := rfl
def asg3 : Option Env → Res Fl
  | some ς => .ok .next ς
  | none => .stuck
def asg2 (g : U → Env → Option Env) : Option (U × Env) → Res Fl
  | some (u, ς1) => match g u ς1 with
    | some ς2 => .ok .next ς2
    | none => .stuck
  | none => .stuck
def asgK (g : U → Env → Option Env) (r : Rv) (ς : Env) : Res Fl := asg2 g (r.share ς)
theorem ev_asg : mAsg m G ς = (m ς).bind (asgK G) := rfl
theorem asgK_ : asgK G r ς = asg2 G (r.share ς) := rfl
theorem asg2_ : asg2 G (some (v, ς)) = asg3 (G v ς) := rfl
theorem asg3_ : asg3 (some ς) = .ok .next ς := rfl
def gnK (b : Bool) (i : Nat) (u : U) (ς : Env) : Option Env := if b then some (ς.set i (some u)) else none
theorem ev_gN : gN i v ς = gnK (decide (i < ς.length)) i v ς := by
  unfold gN gnK
  by_cases h : i < ς.length
  · rw [if_pos h, if_pos (decide_eq_true h)]
  · rw [if_neg h, if_neg (by rw [decide_eq_false h]; exact Bool.false_ne_true)]
theorem gN_0 {a0 : Option U} {l : Env} : gN 0 v (a0 :: l) = some (some v :: l) := by
  unfold gN
  rw [if_pos (by simp only [List.length_cons]; omega)]
  rfl
theorem gN_1 {a0 a1 : Option U} {l : Env} : gN 1 v (a0 :: a1 :: l) = some (a0 :: some v :: l) := by
  unfold gN
  rw [if_pos (by simp only [List.length_cons]; omega)]
  rfl
theorem gN_2 {a0 a1 a2 : Option U} {l : Env} : gN 2 v (a0 :: a1 :: a2 :: l) = some (a0 :: a1 :: some v :: l) := by
  unfold gN
  rw [if_pos (by simp only [List.length_cons]; omega)]
  rfl
theorem gN_3 {a0 a1 a2 a3 : Option U} {l : Env} : gN 3 v (a0 :: a1 :: a2 :: a3 :: l) = some (a0 :: a1 :: a2 :: some v :: l) := by
  unfold gN
  rw [if_pos (by simp only [List.length_cons]; omega)]
  rfl
theorem gN_4 {a0 a1 a2 a3 a4 : Option U} {l : Env} : gN 4 v (a0 :: a1 :: a2 :: a3 :: a4 :: l) = some (a0 :: a1 :: a2 :: a3 :: some v :: l) := by
  unfold gN
  rw [if_pos (by simp only [List.length_cons]; omega)]
  rfl
theorem gN_5 {a0 a1 a2 a3 a4 a5 : Option U} {l : Env} : gN 5 v (a0 :: a1 :: a2 :: a3 :: a4 :: a5 :: l) = some (a0 :: a1 :: a2 :: a3 :: a4 :: some v :: l) := by
  unfold gN
  rw [if_pos (by simp only [List.length_cons]; omega)]
  rfl
theorem gN_6 {a0 a1 a2 a3 a4 a5 a6 : Option U} {l : Env} : gN 6 v (a0 :: a1 :: a2 :: a3 :: a4 :: a5 :: a6 :: l) = some (a0 :: a1 :: a2 :: a3 :: a4 :: a5 :: some v :: l) := by
  unfold gN
  rw [if_pos (by simp only [List.length_cons]; omega)]
  rfl
theorem gN_7 {a0 a1 a2 a3 a4 a5 a6 a7 : Option U} {l : Env} : gN 7 v (a0 :: a1 :: a2 :: a3 :: a4 :: a5 :: a6 :: a7 :: l) = some (a0 :: a1 :: a2 :: a3 :: a4 :: a5 :: a6 :: some v :: l) := by
  unfold gN
  rw [if_pos (by simp only [List.length_cons]; omega)]
  rfl
theorem gN_8 {a0 a1 a2 a3 a4 a5 a6 a7 a8 : Option U} {l : Env} : gN 8 v (a0 :: a1 :: a2 :: a3 :: a4 :: a5 :: a6 :: a7 :: a8 :: l) = some (a0 :: a1 :: a2 :: a3 :: a4 :: a5 :: a6 :: a7 :: some v :: l) := by
  unfold gN
  rw [if_pos (by simp only [List.length_cons]; omega)]
  rfl
theorem gN_9 {a0 a1 a2 a3 a4 a5 a6 a7 a8 a9 : Option U} {l : Env} : gN 9 v (a0 :: a1 :: a2 :: a3 :: a4 :: a5 :: a6 :: a7 :: a8 :: a9 :: l) = some (a0 :: a1 :: a2 :: a3 :: a4 :: a5 :: a6 :: a7 :: a8 :: some v :: l) := by
  unfold gN
  rw [if_pos (by simp only [List.length_cons]; omega)]
  rfl
theorem gN_10 {a0 a1 a2 a3 a4 a5 a6 a7 a8 a9 a10 : Option U} {l : Env} : gN 10 v (a0 :: a1 :: a2 :: a3 :: a4 :: a5 :: a6 :: a7 :: a8 :: a9 :: a10 :: l) = some (a0 :: a1 :: a2 :: a3 :: a4 :: a5 :: a6 :: a7 :: a8 :: a9 :: some v :: l) := by
  unfold gN
  rw [if_pos (by simp only [List.length_cons]; omega)]
  rfl
theorem gN_11 {a0 a1 a2 a3 a4 a5 a6 a7 a8 a9 a10 a11 : Option U} {l : Env} : gN 11 v (a0 :: a1 :: a2 :: a3 :: a4 :: a5 :: a6 :: a7 :: a8 :: a9 :: a10 :: a11 :: l) = some (a0 :: a1 :: a2 :: a3 :: a4 :: a5 :: a6 :: a7 :: a8 :: a9 :: a10 :: some v :: l) := by
  unfold gN
  rw [if_pos (by simp only [List.length_cons]; omega)]
  rfl
theorem gN_12 {a0 a1 a2 a3 a4 a5 a6 a7 a8 a9 a10 a11 a12 : Option U} {l : Env} : gN 12 v (a0 :: a1 :: a2 :: a3 :: a4 :: a5 :: a6 :: a7 :: a8 :: a9 :: a10 :: a11 :: a12 :: l) = some (a0 :: a1 :: a2 :: a3 :: a4 :: a5 :: a6 :: a7 :: a8 :: a9 :: a10 :: a11 :: some v :: l) := by
  unfold gN
  rw [if_pos (by simp only [List.length_cons]; omega)]
  rfl
theorem gN_13 {a0 a1 a2 a3 a4 a5 a6 a7 a8 a9 a10 a11 a12 a13 : Option U} {l : Env} : gN 13 v (a0 :: a1 :: a2 :: a3 :: a4 :: a5 :: a6 :: a7 :: a8 :: a9 :: a10 :: a11 :: a12 :: a13 :: l) = some (a0 :: a1 :: a2 :: a3 :: a4 :: a5 :: a6 :: a7 :: a8 :: a9 :: a10 :: a11 :: a12 :: some v :: l) := by
  unfold gN
  rw [if_pos (by simp only [List.length_cons]; omega)]
  rfl
theorem gN_14 {a0 a1 a2 a3 a4 a5 a6 a7 a8 a9 a10 a11 a12 a13 a14 : Option U} {l : Env} : gN 14 v (a0 :: a1 :: a2 :: a3 :: a4 :: a5 :: a6 :: a7 :: a8 :: a9 :: a10 :: a11 :: a12 :: a13 :: a14 :: l) = some (a0 :: a1 :: a2 :: a3 :: a4 :: a5 :: a6 :: a7 :: a8 :: a9 :: a10 :: a11 :: a12 :: a13 :: some v :: l) := by
  unfold gN
  rw [if_pos (by simp only [List.length_cons]; omega)]
  rfl
theorem gN_15 {a0 a1 a2 a3 a4 a5 a6 a7 a8 a9 a10 a11 a12 a13 a14 a15 : Option U} {l : Env} : gN 15 v (a0 :: a1 :: a2 :: a3 :: a4 :: a5 :: a6 :: a7 :: a8 :: a9 :: a10 :: a11 :: a12 :: a13 :: a14 :: a15 :: l) = some (a0 :: a1 :: a2 :: a3 :: a4 :: a5 :: a6 :: a7 :: a8 :: a9 :: a10 :: a11 :: a12 :: a13 :: a14 :: some v :: l) := by
  unfold gN
  rw [if_pos (by simp only [List.length_cons]; omega)]
  rfl
theorem gN_16 {a0 a1 a2 a3 a4 a5 a6 a7 a8 a9 a10 a11 a12 a13 a14 a15 a16 : Option U} {l : Env} : gN 16 v (a0 :: a1 :: a2 :: a3 :: a4 :: a5 :: a6 :: a7 :: a8 :: a9 :: a10 :: a11 :: a12 :: a13 :: a14 :: a15 :: a16 :: l) = some (a0 :: a1 :: a2 :: a3 :: a4 :: a5 :: a6 :: a7 :: a8 :: a9 :: a10 :: a11 :: a12 :: a13 :: a14 :: a15 :: some v :: l) := by
  unfold gN
  rw [if_pos (by simp only [List.length_cons]; omega)]
  rfl
theorem gN_17 {a0 a1 a2 a3 a4 a5 a6 a7 a8 a9 a10 a11 a12 a13 a14 a15 a16 a17 : Option U} {l : Env} : gN 17 v (a0 :: a1 :: a2 :: a3 :: a4 :: a5 :: a6 :: a7 :: a8 :: a9 :: a10 :: a11 :: a12 :: a13 :: a14 :: a15 :: a16 :: a17 :: l) = some (a0 :: a1 :: a2 :: a3 :: a4 :: a5 :: a6 :: a7 :: a8 :: a9 :: a10 :: a11 :: a12 :: a13 :: a14 :: a15 :: a16 :: some v :: l) := by
  unfold gN
  rw [if_pos (by simp only [List.length_cons]; omega)]
  rfl
theorem gN_18 {a0 a1 a2 a3 a4 a5 a6 a7 a8 a9 a10 a11 a12 a13 a14 a15 a16 a17 a18 : Option U} {l : Env} : gN 18 v (a0 :: a1 :: a2 :: a3 :: a4 :: a5 :: a6 :: a7 :: a8 :: a9 :: a10 :: a11 :: a12 :: a13 :: a14 :: a15 :: a16 :: a17 :: a18 :: l) = some (a0 :: a1 :: a2 :: a3 :: a4 :: a5 :: a6 :: a7 :: a8 :: a9 :: a10 :: a11 :: a12 :: a13 :: a14 :: a15 :: a16 :: a17 :: some v :: l) := by
  unfold gN
  rw [if_pos (by simp only [List.length_cons]; omega)]
  rfl
theorem gN_19 {a0 a1 a2 a3 a4 a5 a6 a7 a8 a9 a10 a11 a12 a13 a14 a15 a16 a17 a18 a19 : Option U} {l : Env} : gN 19 v (a0 :: a1 :: a2 :: a3 :: a4 :: a5 :: a6 :: a7 :: a8 :: a9 :: a10 :: a11 :: a12 :: a13 :: a14 :: a15 :: a16 :: a17 :: a18 :: a19 :: l) = some (a0 :: a1 :: a2 :: a3 :: a4 :: a5 :: a6 :: a7 :: a8 :: a9 :: a10 :: a11 :: a12 :: a13 :: a14 :: a15 :: a16 :: a17 :: a18 :: some v :: l) := by
  unfold gN
  rw [if_pos (by simp only [List.length_cons]; omega)]
  rfl
theorem gN_20 {a0 a1 a2 a3 a4 a5 a6 a7 a8 a9 a10 a11 a12 a13 a14 a15 a16 a17 a18 a19 a20 : Option U} {l : Env} : gN 20 v (a0 :: a1 :: a2 :: a3 :: a4 :: a5 :: a6 :: a7 :: a8 :: a9 :: a10 :: a11 :: a12 :: a13 :: a14 :: a15 :: a16 :: a17 :: a18 :: a19 :: a20 :: l) = some (a0 :: a1 :: a2 :: a3 :: a4 :: a5 :: a6 :: a7 :: a8 :: a9 :: a10 :: a11 :: a12 :: a13 :: a14 :: a15 :: a16 :: a17 :: a18 :: a19 :: some v :: l) := by
  unfold gN
  rw [if_pos (by simp only [List.length_cons]; omega)]
  rfl
theorem gN_21 {a0 a1 a2 a3 a4 a5 a6 a7 a8 a9 a10 a11 a12 a13 a14 a15 a16 a17 a18 a19 a20 a21 : Option U} {l : Env} : gN 21 v (a0 :: a1 :: a2 :: a3 :: a4 :: a5 :: a6 :: a7 :: a8 :: a9 :: a10 :: a11 :: a12 :: a13 :: a14 :: a15 :: a16 :: a17 :: a18 :: a19 :: a20 :: a21 :: l) = some (a0 :: a1 :: a2 :: a3 :: a4 :: a5 :: a6 :: a7 :: a8 :: a9 :: a10 :: a11 :: a12 :: a13 :: a14 :: a15 :: a16 :: a17 :: a18 :: a19 :: a20 :: some v :: l) := by
  unfold gN
  rw [if_pos (by simp only [List.length_cons]; omega)]
  rfl
theorem gN_22 {a0 a1 a2 a3 a4 a5 a6 a7 a8 a9 a10 a11 a12 a13 a14 a15 a16 a17 a18 a19 a20 a21 a22 : Option U} {l : Env} : gN 22 v (a0 :: a1 :: a2 :: a3 :: a4 :: a5 :: a6 :: a7 :: a8 :: a9 :: a10 :: a11 :: a12 :: a13 :: a14 :: a15 :: a16 :: a17 :: a18 :: a19 :: a20 :: a21 :: a22 :: l) = some (a0 :: a1 :: a2 :: a3 :: a4 :: a5 :: a6 :: a7 :: a8 :: a9 :: a10 :: a11 :: a12 :: a13 :: a14 :: a15 :: a16 :: a17 :: a18 :: a19 :: a20 :: a21 :: some v :: l) := by
  unfold gN
  rw [if_pos (by simp only [List.length_cons]; omega)]
  rfl
theorem gN_23 {a0 a1 a2 a3 a4 a5 a6 a7 a8 a9 a10 a11 a12 a13 a14 a15 a16 a17 a18 a19 a20 a21 a22 a23 : Option U} {l : Env} : gN 23 v (a0 :: a1 :: a2 :: a3 :: a4 :: a5 :: a6 :: a7 :: a8 :: a9 :: a10 :: a11 :: a12 :: a13 :: a14 :: a15 :: a16 :: a17 :: a18 :: a19 :: a20 :: a21 :: a22 :: a23 :: l) = some (a0 :: a1 :: a2 :: a3 :: a4 :: a5 :: a6 :: a7 :: a8 :: a9 :: a10 :: a11 :: a12 :: a13 :: a14 :: a15 :: a16 :: a17 :: a18 :: a19 :: a20 :: a21 :: a22 :: some v :: l) := by
  unfold gN
  rw [if_pos (by simp only [List.length_cons]; omega)]
  rfl
theorem gN_24 {a0 a1 a2 a3 a4 a5 a6 a7 a8 a9 a10 a11 a12 a13 a14 a15 a16 a17 a18 a19 a20 a21 a22 a23 a24 : Option U} {l : Env} : gN 24 v (a0 :: a1 :: a2 :: a3 :: a4 :: a5 :: a6 :: a7 :: a8 :: a9 :: a10 :: a11 :: a12 :: a13 :: a14 :: a15 :: a16 :: a17 :: a18 :: a19 :: a20 :: a21 :: a22 :: a23 :: a24 :: l) = some (a0 :: a1 :: a2 :: a3 :: a4 :: a5 :: a6 :: a7 :: a8 :: a9 :: a10 :: a11 :: a12 :: a13 :: a14 :: a15 :: a16 :: a17 :: a18 :: a19 :: a20 :: a21 :: a22 :: a23 :: some v :: l) := by
  unfold gN
  rw [if_pos (by simp only [List.length_cons]; omega)]
  rfl
theorem gN_25 {a0 a1 a2 a3 a4 a5 a6 a7 a8 a9 a10 a11 a12 a13 a14 a15 a16 a17 a18 a19 a20 a21 a22 a23 a24 a25 : Option U} {l : Env} : gN 25 v (a0 :: a1 :: a2 :: a3 :: a4 :: a5 :: a6 :: a7 :: a8 :: a9 :: a10 :: a11 :: a12 :: a13 :: a14 :: a15 :: a16 :: a17 :: a18 :: a19 :: a20 :: a21 :: a22 :: a23 :: a24 :: a25 :: l) = some (a0 :: a1 :: a2 :: a3 :: a4 :: a5 :: a6 :: a7 :: a8 :: a9 :: a10 :: a11 :: a12 :: a13 :: a14 :: a15 :: a16 :: a17 :: a18 :: a19 :: a20 :: a21 :: a22 :: a23 :: a24 :: some v :: l) := by
  unfold gN
  rw [if_pos (by simp only [List.length_cons]; omega)]
  rfl
def gscK (gs : List U → Env → Option Env) (us : List U) : Option Env → Option Env
  | some ς1 => gs us ς1
  | none => none
theorem gsN_ : gsN [] ς = some ς := rfl
theorem gsC_ : gsC G Gs (v :: us) ς = gscK Gs us (G v ς) := rfl
theorem gscK_ : gscK Gs us (some ς) = Gs us ς := rfl
theorem gT_1 {y0 : PyData} : gT 1 Gs (.d (.tuple [y0])) ς = Gs [.d y0] ς := rfl
theorem gP_1 {y0 : U} : gT 1 Gs (.pr [y0]) ς = Gs [y0] ς := rfl
theorem gO_1 {y0 : U} : gT 1 Gs (.own [y0]) ς = Gs [y0] ς := rfl
theorem gL_1 {y0 : PyData} : gT 1 Gs (.d (.list [y0])) ς = Gs [.d y0] ς := rfl
theorem gT_2 {y0 y1 : PyData} : gT 2 Gs (.d (.tuple [y0, y1])) ς = Gs [.d y0, .d y1] ς := rfl
theorem gP_2 {y0 y1 : U} : gT 2 Gs (.pr [y0, y1]) ς = Gs [y0, y1] ς := rfl
theorem gO_2 {y0 y1 : U} : gT 2 Gs (.own [y0, y1]) ς = Gs [y0, y1] ς := rfl
theorem gL_2 {y0 y1 : PyData} : gT 2 Gs (.d (.list [y0, y1])) ς = Gs [.d y0, .d y1] ς := rfl
theorem gT_3 {y0 y1 y2 : PyData} : gT 3 Gs (.d (.tuple [y0, y1, y2])) ς = Gs [.d y0, .d y1, .d y2] ς := rfl
theorem gP_3 {y0 y1 y2 : U} : gT 3 Gs (.pr [y0, y1, y2]) ς = Gs [y0, y1, y2] ς := rfl
theorem gO_3 {y0 y1 y2 : U} : gT 3 Gs (.own [y0, y1, y2]) ς = Gs [y0, y1, y2] ς := rfl
theorem gL_3 {y0 y1 y2 : PyData} : gT 3 Gs (.d (.list [y0, y1, y2])) ς = Gs [.d y0, .d y1, .d y2] ς := rfl
theorem gT_4 {y0 y1 y2 y3 : PyData} : gT 4 Gs (.d (.tuple [y0, y1, y2, y3])) ς = Gs [.d y0, .d y1, .d y2, .d y3] ς := rfl
theorem gP_4 {y0 y1 y2 y3 : U} : gT 4 Gs (.pr [y0, y1, y2, y3]) ς = Gs [y0, y1, y2, y3] ς := rfl
theorem gO_4 {y0 y1 y2 y3 : U} : gT 4 Gs (.own [y0, y1, y2, y3]) ς = Gs [y0, y1, y2, y3] ς := rfl
theorem gL_4 {y0 y1 y2 y3 : PyData} : gT 4 Gs (.d (.list [y0, y1, y2, y3])) ς = Gs [.d y0, .d y1, .d y2, .d y3] ς := rfl
theorem gT_5 {y0 y1 y2 y3 y4 : PyData} : gT 5 Gs (.d (.tuple [y0, y1, y2, y3, y4])) ς = Gs [.d y0, .d y1, .d y2, .d y3, .d y4] ς := rfl
theorem gP_5 {y0 y1 y2 y3 y4 : U} : gT 5 Gs (.pr [y0, y1, y2, y3, y4]) ς = Gs [y0, y1, y2, y3, y4] ς := rfl
theorem gO_5 {y0 y1 y2 y3 y4 : U} : gT 5 Gs (.own [y0, y1, y2, y3, y4]) ς = Gs [y0, y1, y2, y3, y4] ς := rfl
theorem gL_5 {y0 y1 y2 y3 y4 : PyData} : gT 5 Gs (.d (.list [y0, y1, y2, y3, y4])) ς = Gs [.d y0, .d y1, .d y2, .d y3, .d y4] ς := rfl
theorem gT_6 {y0 y1 y2 y3 y4 y5 : PyData} : gT 6 Gs (.d (.tuple [y0, y1, y2, y3, y4, y5])) ς = Gs [.d y0, .d y1, .d y2, .d y3, .d y4, .d y5] ς := rfl
theorem gP_6 {y0 y1 y2 y3 y4 y5 : U} : gT 6 Gs (.pr [y0, y1, y2, y3, y4, y5]) ς = Gs [y0, y1, y2, y3, y4, y5] ς := rfl
theorem gO_6 {y0 y1 y2 y3 y4 y5 : U} : gT 6 Gs (.own [y0, y1, y2, y3, y4, y5]) ς = Gs [y0, y1, y2, y3, y4, y5] ς := rfl
theorem gL_6 {y0 y1 y2 y3 y4 y5 : PyData} : gT 6 Gs (.d (.list [y0, y1, y2, y3, y4, y5])) ς = Gs [.d y0, .d y1, .d y2, .d y3, .d y4, .d y5] ς := rfl
def inK (o : Option PyData) : Option Int := match o with
  | some (.int k) => some k
  | _ => none
theorem ev_intAt : intAt rb ς = inK (pk1 some rb ς) := rfl
theorem inK_ : inK (some (.int a)) = some a := rfl
def ks2 (i : Nat) (us : List U) (u : U) (ς : Env) : Option Nat → Option Env
  | some j => some (setP ς i [] (.own (us.set j u)))
  | none => none
def ks1 (i : Nat) (k : Int) (u : U) (ς : Env) : Option (Option U) → Option Env
  | some (some w) => match w with
    | .own us => match ixN us.length k with
      | some j => some (ς.set i (some (.own (us.set j u))))
      | none => none
    | _ => none
  | _ => none
def ks3 (i : Nat) (us : List U) (u : U) (ς : Env) : Option Nat → Option Env
  | some j => some (ς.set i (some (.own (us.set j u))))
  | none => none
def gx2 (i : Nat) (u : U) (ς : Env) : Option Int → Option Env
  | some k => kSet i [] k u ς
  | none => none
def gx1 (i : Nat) (u : U) : Res Rv → Option Env
  | .ok rb ς2 => match intAt rb ς2 with
    | some k => kSet i [] k u ς2
    | none => none
  | _ => none
def gx0 (i : Nat) (mb : Env → Res Rv) (u : U) (ς : Env) : Option (Option U) → Option Env
  | some (some _) => gx1 i u (mb ς)
  | _ => none
theorem ev_gIx : gIx (pN i) mb v ς = gx0 i mb v ς ς[i]? := by
  unfold gIx pN gx0
  cases ς[i]? with
  | none => rfl
  | some o => cases o <;> rfl
theorem gx0_ : gx0 i mb v ς (some (some v1)) = gx1 i v (mb ς) := rfl
theorem gx1_ : gx1 i v (.ok rb ς) = gx2 i v ς (intAt rb ς) := rfl
theorem gx2_ : gx2 i v ς (some a) = kSet i [] a v ς := rfl
theorem ev_kSet : kSet i [] a v ς = ks1 i a v ς ς[i]? := by
  unfold kSet getP setP ks1
  cases h : ς[i]? with
  | none => rfl
  | some o =>
    cases o with
    | none => rfl
    | some w => cases w <;> simp only [U.gt] <;> first | rfl | (simp only [U.pt]; rfl)
theorem ks1_ : ks1 i a v ς (some (some (.own us))) = ks3 i us v ς (ixN us.length a) := rfl
theorem ks3_ : ks3 i us v ς (some j) = some (ς.set i (some (.own (us.set j v)))) := rfl
def tkK (i : Nat) (ς : Env) : Option (Option U) → Option (U × Env)
  | some (some u) => if u.sh then some (u, ς) else some (u, ς.set i (some .dead))
  | _ => none
def ret2 : Option (U × Env) → Res Fl
  | some (u, ς1) => .ok (.ret u) ς1
  | none => .stuck
def retK (r : Rv) (ς : Env) : Res Fl := ret2 (r.take ς)
def exprK (r : Rv) (ς : Env) : Res Fl := .ok .next ς
theorem ev_ret : mRet m ς = (m ς).bind retK := rfl
theorem retK_ : retK r ς = ret2 (r.take ς) := rfl
theorem ret2_ : ret2 (some (v, ς)) = .ok (.ret v) ς := rfl
theorem take_tm : Rv.take ς (.tm v) = some (v, ς) := rfl
theorem take_pl : Rv.take ς (.pl i) = tkK i ς ς[i]? := rfl
theorem tkK_d : tkK i ς (some (some (.d x))) = some (.d x, ς) := rfl
theorem tkK_o : tkK i ς (some (some (.own us))) = some (.own us, ς.set i (some .dead)) := rfl
theorem ev_expr : mExpr m ς = (m ς).bind exprK := rfl
theorem exprK_ : exprK r ς = .ok .next ς := rfl
def tup3 (b : Bool) (xs : List PyData) (ς : Env) : Res Rv := if b then .ok (.tm (.d (.tuple xs))) ς else .stuck
def tup2 : Option (List PyData × Env) → Res Rv
  | some (xs, ς1) => if xs.length ≤ 1000 then .ok (.tm (.d (.tuple xs))) ς1 else .stuck
  | none => .stuck
def tupK (rs : List Rv) (ς : Env) : Res Rv := tup2 (sharesD rs ς)
def lst2 : Option (List U × Env) → Res Rv
  | some (us, ς1) => if us.length ≤ 1000 then .ok (.tm (.own us)) ς1 else .stuck
  | none => .stuck
def lstK (rs : List Rv) (ς : Env) : Res Rv := lst2 (shares rs ς)
theorem ev_tup : mTup ms ς = (ms ς).bind tupK := rfl
theorem tupK_ : tupK rs ς = tup2 (sharesD rs ς) := rfl
theorem ev_lst : mLst ms ς = (ms ς).bind lstK := rfl
theorem lstK_ : lstK rs ς = lst2 (shares rs ς) := rfl
theorem tup2_0 : tup2 (some ([], ς)) = .ok (.tm (.d (.tuple []))) ς := rfl
theorem lst2_0 : lst2 (some ([], ς)) = .ok (.tm (.own [])) ς := rfl
theorem tup2_1 {y0 : PyData} : tup2 (some ([y0], ς)) = .ok (.tm (.d (.tuple [y0]))) ς := rfl
theorem lst2_1 {y0 : U} : lst2 (some ([y0], ς)) = .ok (.tm (.own [y0])) ς := rfl
theorem tup2_2 {y0 y1 : PyData} : tup2 (some ([y0, y1], ς)) = .ok (.tm (.d (.tuple [y0, y1]))) ς := rfl
theorem lst2_2 {y0 y1 : U} : lst2 (some ([y0, y1], ς)) = .ok (.tm (.own [y0, y1])) ς := rfl
theorem tup2_3 {y0 y1 y2 : PyData} : tup2 (some ([y0, y1, y2], ς)) = .ok (.tm (.d (.tuple [y0, y1, y2]))) ς := rfl
theorem lst2_3 {y0 y1 y2 : U} : lst2 (some ([y0, y1, y2], ς)) = .ok (.tm (.own [y0, y1, y2])) ς := rfl
theorem tup2_4 {y0 y1 y2 y3 : PyData} : tup2 (some ([y0, y1, y2, y3], ς)) = .ok (.tm (.d (.tuple [y0, y1, y2, y3]))) ς := rfl
theorem lst2_4 {y0 y1 y2 y3 : U} : lst2 (some ([y0, y1, y2, y3], ς)) = .ok (.tm (.own [y0, y1, y2, y3])) ς := rfl
theorem tup2_5 {y0 y1 y2 y3 y4 : PyData} : tup2 (some ([y0, y1, y2, y3, y4], ς)) = .ok (.tm (.d (.tuple [y0, y1, y2, y3, y4]))) ς := rfl
theorem lst2_5 {y0 y1 y2 y3 y4 : U} : lst2 (some ([y0, y1, y2, y3, y4], ς)) = .ok (.tm (.own [y0, y1, y2, y3, y4])) ς := rfl
theorem tup2_6 {y0 y1 y2 y3 y4 y5 : PyData} : tup2 (some ([y0, y1, y2, y3, y4, y5], ς)) = .ok (.tm (.d (.tuple [y0, y1, y2, y3, y4, y5]))) ς := rfl
theorem lst2_6 {y0 y1 y2 y3 y4 y5 : U} : lst2 (some ([y0, y1, y2, y3, y4, y5], ς)) = .ok (.tm (.own [y0, y1, y2, y3, y4, y5])) ς := rfl
theorem tup2_7 {y0 y1 y2 y3 y4 y5 y6 : PyData} : tup2 (some ([y0, y1, y2, y3, y4, y5, y6], ς)) = .ok (.tm (.d (.tuple [y0, y1, y2, y3, y4, y5, y6]))) ς := rfl
theorem lst2_7 {y0 y1 y2 y3 y4 y5 y6 : U} : lst2 (some ([y0, y1, y2, y3, y4, y5, y6], ς)) = .ok (.tm (.own [y0, y1, y2, y3, y4, y5, y6])) ς := rfl
theorem tup2_8 {y0 y1 y2 y3 y4 y5 y6 y7 : PyData} : tup2 (some ([y0, y1, y2, y3, y4, y5, y6, y7], ς)) = .ok (.tm (.d (.tuple [y0, y1, y2, y3, y4, y5, y6, y7]))) ς := rfl
theorem lst2_8 {y0 y1 y2 y3 y4 y5 y6 y7 : U} : lst2 (some ([y0, y1, y2, y3, y4, y5, y6, y7], ς)) = .ok (.tm (.own [y0, y1, y2, y3, y4, y5, y6, y7])) ς := rfl
theorem tup2_  (h : xs.length ≤ 1000) : tup2 (some (xs, ς)) = .ok (.tm (.d (.tuple xs))) ς := if_pos h
theorem lst2_  (h : us.length ≤ 1000) : lst2 (some (us, ς)) = .ok (.tm (.own us)) ς := if_pos h
def ixU (o : Option U) (ς : Env) : Res Rv := match o with
  | some u => .ok (.tm u) ς
  | none => .stuck
def ixD (o : Option PyData) (ς : Env) : Res Rv := match o with
  | some x => .ok (.tm (.d x)) ς
  | none => .stuck
def ixO2 (s : Nat) (us : List U) (j : Nat) (ς : Env) : Option U → Res Rv
  | some u => if u.sh then .ok (.tm u) ς else match u.toD with
    | some x => .ok (.tm (.d x)) (ς.set s (some (.own (us.set j (.d x)))))
    | none => .stuck
  | none => .stuck
def ixO (s : Nat) (us : List U) (ς : Env) : Option Nat → Res Rv
  | some j => ixO2 s us j ς us[j]?
  | none => .stuck
def ixP (s : Nat) (i : Int) (ς : Env) : Option (Option U) → Res Rv
  | some (some (.own us)) => ixO s us ς (ixN us.length i)
  | some (some (.d (.list xs))) => ixD (atI xs i) ς
  | some (some (.d (.tuple xs))) => ixD (atI xs i) ς
  | _ => .stuck
def ixK (ra : Rv) (o : Option PyData) (ς : Env) : Res Rv := match o with
  | some (.int i) => kIx1 ra i ς
  | _ => .stuck
theorem ev_ix : mIx ma mb ς = (ma ς).bind (m2K mb kIx) := rfl
theorem ev_kIx : kIx ra rb ς = ixK ra (pk1 some rb ς) ς := rfl
theorem ixK_ : ixK ra (some (.int a)) ς = kIx1 ra a ς := rfl
theorem kIx1_o : kIx1 (.tm (.own us)) a ς = ixU (atI us a) ς := rfl
theorem kIx1_l : kIx1 (.tm (.d (.list xs))) a ς = ixD (atI xs a) ς := rfl
theorem kIx1_t : kIx1 (.tm (.d (.tuple xs))) a ς = ixD (atI xs a) ς := rfl
theorem kIx1_p : kIx1 (.pl i) a ς = ixP i a ς ς[i]? := by
  unfold kIx1
  simp only []
  cases ς[i]? with
  | none => rfl
  | some o =>
    cases o with
    | none => rfl
    | some w =>
      cases w with
      | own us =>
        simp only [ixP, ixO]
        cases ixN us.length a with
        | none => rfl
        | some j =>
          simp only [ixO2]
          all_goals (cases us[j]? <;> rfl)
      | d x => cases x <;> rfl
      | _ => rfl
theorem ixP_o : ixP i a ς (some (some (.own us))) = ixO i us ς (ixN us.length a) := rfl
theorem ixP_l : ixP i a ς (some (some (.d (.list xs)))) = ixD (atI xs a) ς := rfl
theorem ixP_t : ixP i a ς (some (some (.d (.tuple xs)))) = ixD (atI xs a) ς := rfl
theorem ixU_ : ixU (some v) ς = .ok (.tm v) ς := rfl
theorem ixD_ : ixD (some x) ς = .ok (.tm (.d x)) ς := rfl
theorem ixO_ : ixO i us ς (some j) = ixO2 i us j ς us[j]? := rfl
theorem ixO2_d : ixO2 i us j ς (some (.d x)) = .ok (.tm (.d x)) ς := rfl
def pksK : Option U → Option (List PyData) → Option (List PyData)
  | some u, o => match u.toD, o with
    | some x, some xs => some (x :: xs)
    | _, _ => none
  | none, _ => none
def pksD (x : PyData) : Option (List PyData) → Option (List PyData)
  | some xs => some (x :: xs)
  | none => none
def pksO : Option (List PyData) → Option (List PyData) → Option (List PyData)
  | some x, some xs => some (.list x :: xs)
  | _, _ => none
def scaK (g : List PyData → Option PyData) (ς : Env) : Option (List PyData) → Res Rv
  | some xs => scK (g xs) ς
  | none => .stuck
theorem peeks_n : peeks ς [] = some [] := rfl
theorem peeks_c : peeks ς (r :: rs) = pksK (r.peek ς) (peeks ς rs) := by
  rw [peeks]
  cases r.peek ς with
  | none => rfl
  | some u => rfl

theorem pksK_d {o : Option (List PyData)} : pksK (some (.d x)) o = pksD x o := by cases o <;> rfl
theorem pksK_o {o : Option (List PyData)} : pksK (some (.own us)) o = pksO (U.toDs us) o := by
  unfold pksK pksO
  simp only [U.toD]
  cases U.toDs us <;> cases o <;> rfl
theorem pksD_ : pksD x (some xs) = some (x :: xs) := rfl
theorem pksO_ : pksO (some ys) (some xs) = some (.list ys :: xs) := rfl
theorem ev_kScA {g : List PyData → Option PyData} : kScA g rs ς = scaK g ς (peeks ς rs) := by
  unfold kScA scaK
  cases peeks ς rs <;> rfl
theorem scaK_ {g : List PyData → Option PyData} : scaK g ς (some xs) = scK (g xs) ς := rfl
def lenK (ς : Env) : Option U → Res Rv
  | some u => match lenU u with
    | some n => .ok (.tm (.d (.int (n : Nat)))) ς
    | none => .stuck
  | none => .stuck
theorem ev_len : kLen [r] ς = lenK ς (r.peek ς) := by
  simp only [kLen, lenK]
  all_goals (cases r.peek ς <;> rfl)
theorem lenK_o : lenK ς (some (.own us)) = .ok (.tm (.d (.int (us.length : Nat)))) ς := rfl
theorem lenK_l : lenK ς (some (.d (.list xs))) = .ok (.tm (.d (.int (xs.length : Nat)))) ς := rfl
theorem lenK_t : lenK ς (some (.d (.tuple xs))) = .ok (.tm (.d (.int (xs.length : Nat)))) ς := rfl
theorem fAbs_ : fAbs [.int a] = some (.int (if a < 0 then -a else a)) := rfl
theorem fMax2_ : fMax2 [.int a, .int b] = some (.int (if b > a then b else a)) := rfl
theorem fMin2_ : fMin2 [.int a, .int b] = some (.int (if b < a then b else a)) := rfl
theorem fInt_ : fInt [.int a] = some (.int a) := rfl
theorem fGcd_ : fGcd [.int a, .int b] = some (.int ((Nat.gcd a.natAbs b.natAbs : Nat) : Int)) := rfl
theorem fInt_b : fInt [.bool c] = some (.int (if c then 1 else 0)) := rfl
theorem fAdd_ : fAdd (.int a) (.int b) = some (.int (a + b)) := rfl
theorem fSub_ : fSub (.int a) (.int b) = some (.int (a - b)) := rfl
theorem fSub_bb : fSub (.bool c) (.bool d) = some (.int ((if c = true then (1 : Int) else 0) - (if d = true then (1 : Int) else 0))) := rfl
theorem fNeg_ : fNeg (.int a) = some (.int (-a)) := rfl
theorem fMod_ (h : 0 < b) : fMod (.int a) (.int b) = some (.int (a % b)) := if_pos h
theorem fDiv_ (h : 0 < b) (h2 : b.natAbs.log2 < 9000) : fDiv (.int a) (.int b) = some (.int (a / b)) := (if_pos ⟨by omega, h2⟩).trans (by rw [Int.fdiv_eq_ediv_of_nonneg a (by omega)])
theorem fDivN_ (h : b < 0) (h2 : b.natAbs.log2 < 9000) : fDiv (.int a) (.int b) = some (.int (a.fdiv b)) := if_pos ⟨by omega, h2⟩
theorem fPow_ (h : 0 ≤ b) (h2 : b ≤ 1000000) (h3 : a.natAbs < 2 ^ 64) : fPow (.int a) (.int b) = some (.int (a ^ b.toNat)) := if_pos ⟨h, h2, h3⟩
theorem fLt_ : fLt (.int a) (.int b) = some (.bool (decide (a < b))) := rfl
theorem fGt_ : fGt (.int a) (.int b) = some (.bool (decide (b < a))) := rfl
theorem fLe_ : fLe (.int a) (.int b) = some (.bool (decide (a ≤ b))) := rfl
theorem fGe_ : fGe (.int a) (.int b) = some (.bool (decide (b ≤ a))) := rfl
/-- a number of few bits -/
def Sm (i : Int) : Prop := i.natAbs.log2 < 500000
theorem Sm.of {i : Int} (h : i.natAbs < 2 ^ 400) : Sm i := by
  unfold Sm
  by_cases z : i.natAbs = 0
  · rw [z]; decide
  · have := (Nat.log2_lt z).mpr h
    omega
theorem Sm.lo {i : Int} (h1 : -1000000000000000000 ≤ i) (h2 : i ≤ 1000000000000000000) : Sm i := by
  refine Sm.of (Nat.lt_of_le_of_lt (show i.natAbs ≤ 1000000000000000000 by omega) (by decide +kernel))
theorem fMul_ (h : Sm a) (h2 : Sm b) : fMul (.int a) (.int b) = some (.int (a * b)) := by
  unfold Sm at h h2
  exact if_pos (by omega)
theorem fEq_ii : fEq (.int a) (.int b) = some (.bool (decide (a = b))) := by
  have e : PyData.eqv (.int a) (.int b) = decide (a = b) := by
    simp only [PyData.eqv]
    by_cases h : a = b
    · subst h; simp
    · simp [h]
  simp only [fEq, lev, if_true, e]
theorem fNe_ii : fNe (.int a) (.int b) = some (.bool (!decide (a = b))) := by
  have e : PyData.eqv (.int a) (.int b) = decide (a = b) := by
    simp only [PyData.eqv]
    by_cases h : a = b
    · subst h; simp
    · simp [h]
  simp only [fNe, lev, if_true, e]
def dmK (ς : Env) : Option (List PyData) → Res Rv
  | some [.int i, .int j] => if 0 < j ∧ j < 1073741824 then .ok (.tm (.d (.tuple [.int (i / j), .int (i % j)]))) ς else .stuck
  | _ => .stuck
theorem ev_divmod : kDivmod rs ς = dmK ς (peeks ς rs) := rfl
theorem dmK_ (h : 0 < b) (h2 : b < 1073741824) : dmK ς (some [.int a, .int b]) = .ok (.tm (.d (.tuple [.int (a / b), .int (a % b)]))) ς := if_pos ⟨h, h2⟩
def par3K : Option Env → Res Fl
  | some ς => .ok .next ς
  | none => .stuck
def par2K (is : List Nat) : Option (List U × Env) → Res Fl
  | some (us, ς1) => match setAll is us ς1 with
    | some ς2 => .ok .next ς2
    | none => .stuck
  | none => .stuck
def setA (is : List Nat) (us : List U) : Option Env → Option Env
  | some ς => setAll is us ς
  | none => none
theorem ev_par {is : List Nat} : mPar is ms ς = (ms ς).bind (kPar is) := rfl
theorem ev_kPar {is : List Nat} : kPar is rs ς = par2K is (shares rs ς) := rfl
theorem par2K_ {is : List Nat} : par2K is (some (us, ς)) = par3K (setAll is us ς) := rfl
theorem par3K_ : par3K (some ς) = .ok .next ς := rfl
theorem setAll_n : setAll [] [] ς = some ς := rfl
theorem setAll_c {is : List Nat} : setAll (i :: is) (v :: us) ς = setA is us (gN i v ς) := by
  unfold gN
  rw [setAll]
  by_cases h : i < ς.length
  · rw [if_pos h, if_pos h]; rfl
  · rw [if_neg h, if_neg h]; rfl
theorem setA_ {is : List Nat} : setA is us (some ς) = setAll is us ς := rfl
def agt2 (n : Nat) (gs : List U → Env → Option Env) : Option (List U × Env) → Res Fl
  | some (us, ς1) => if us.length = n ∧ n ≤ 1000 then asg3 (gs us ς1) else .stuck
  | none => .stuck
def agtK (n : Nat) (gs : List U → Env → Option Env) (rs : List Rv) (ς : Env) : Res Fl := agt2 n gs (shares rs ς)
theorem ev_asgT : mAsgT k ms Gs ς = (ms ς).bind (agtK k Gs) := by
  unfold mAsgT mA
  congr 1
theorem agtK_ : agtK k Gs rs ς = agt2 k Gs (shares rs ς) := rfl
theorem agt2_2 {y0 y1 : U} : agt2 2 Gs (some ([y0, y1], ς)) = asg3 (Gs [y0, y1] ς) := rfl
theorem agt2_3 {y0 y1 y2 : U} : agt2 3 Gs (some ([y0, y1, y2], ς)) = asg3 (Gs [y0, y1, y2] ς) := rfl
theorem agt2_4 {y0 y1 y2 y3 : U} : agt2 4 Gs (some ([y0, y1, y2, y3], ς)) = asg3 (Gs [y0, y1, y2, y3] ς) := rfl
theorem agt2_5 {y0 y1 y2 y3 y4 : U} : agt2 5 Gs (some ([y0, y1, y2, y3, y4], ς)) = asg3 (Gs [y0, y1, y2, y3, y4] ς) := rfl
def t1K (i : Nat) (ς : Env) : Option (Option U) → Option (U × Env)
  | some (some u) => if u.sh then some (u, ς) else some (u, ς.set i none)
  | _ => none
def taB (u : U) : Option (List U × Env) → Option (List U × Env)
  | some (us, ς) => some (u :: us, ς)
  | none => none
def taA (rs : List Rv) : Option (U × Env) → Option (List U × Env)
  | some (u, ς) => match takeArgs rs ς with
    | some (us, ς) => some (u :: us, ς)
    | none => none
  | none => none
def gbK (i : Nat) (u : U) (rs : List Rv) (us : List U) (ς : Env) : Option (Option U) → Env
  | some none => giveBack rs us (ς.set i (some u))
  | _ => giveBack rs us ς
def callR (rs : List Rv) (ς1 : Env) : FR → Res Rv
  | .ok u us' => .ok (.tm u) (giveBack rs us' ς1)
  | .exc x us' => .exc x (giveBack rs us' ς1)
  | .stuck => .stuck
def callA (φ : Phi) (ds : List U) (rs : List Rv) : Option (List U × Env) → Res Rv
  | some (us, ς1) => callR rs ς1 (φ (us ++ ds))
  | none => .stuck
theorem gb_take : ∀ (rs : List Rv) (us : List U) (ς : Env), giveBack rs (us.take rs.length) ς = giveBack rs us ς
  | [], us, ς => by cases us <;> rfl
  | r :: rs, [], ς => by cases r <;> rfl
  | .tm _ :: rs, u :: us, ς => by
    show giveBack rs (us.take rs.length) ς = giveBack rs us ς
    exact gb_take rs us ς
  | .pl i :: rs, u :: us, ς => by
    have e : (u :: us).take ((Rv.pl i :: rs).length) = u :: us.take rs.length := rfl
    rw [e]
    unfold giveBack
    split
    · exact gb_take rs us _
    · exact gb_take rs us _
theorem ev_call {φ : Phi} {ds : List U} : mCall φ ds ms ς = (ms ς).bind (kCall φ ds) := rfl
theorem ev_kCall {φ : Phi} {ds : List U} : kCall φ ds rs ς = callA φ ds rs (takeArgs rs ς) := by
  unfold kCall callA callR
  cases takeArgs rs ς with
  | none => rfl
  | some p =>
    simp only
    cases φ (p.1 ++ ds) <;> simp only [gb_take]
theorem callA_ {φ : Phi} {ds : List U} : callA φ ds rs (some (us, ς)) = callR rs ς (φ (us ++ ds)) := rfl
theorem callR_ : callR rs ς (.ok v us) = .ok (.tm v) (giveBack rs us ς) := rfl
theorem callR_x : callR rs ς (.exc e us) = .exc e (giveBack rs us ς) := rfl
theorem ta_n : takeArgs [] ς = some ([], ς) := rfl
theorem ta_c : takeArgs (r :: rs) ς = taA rs (take1 ς r) := rfl
theorem taA_ : taA rs (some (v, ς)) = taB v (takeArgs rs ς) := rfl
theorem taB_ : taB v (some (us, ς)) = some (v :: us, ς) := rfl
theorem take1_tm : take1 ς (.tm v) = some (v, ς) := rfl
theorem take1_pl : take1 ς (.pl i) = t1K i ς ς[i]? := rfl
theorem t1K_d : t1K i ς (some (some (.d x))) = some (.d x, ς) := rfl
theorem t1K_o : t1K i ς (some (some (.own us))) = some (.own us, ς.set i none) := rfl
theorem gb_n : giveBack [] us ς = ς := by cases us <;> rfl
theorem gb_t : giveBack (.tm v :: rs) (v1 :: us) ς = giveBack rs us ς := rfl
theorem gb_p : giveBack (.pl i :: rs) (v :: us) ς = gbK i v rs us ς ς[i]? := rfl
theorem gbK_n : gbK i v rs us ς (some none) = giveBack rs us (ς.set i (some v)) := rfl
theorem gbK_s : gbK i v rs us ς (some (some v1)) = giveBack rs us ς := rfl
theorem app_0 {α : Type} : [] ++ ([] : List α) = [] := rfl
theorem app_1 {α : Type} {y0 : α} : [y0] ++ ([] : List α) = [y0] := rfl
theorem app_2 {α : Type} {y0 y1 : α} : [y0, y1] ++ ([] : List α) = [y0, y1] := rfl
theorem app_3 {α : Type} {y0 y1 y2 : α} : [y0, y1, y2] ++ ([] : List α) = [y0, y1, y2] := rfl
theorem app_4 {α : Type} {y0 y1 y2 y3 : α} : [y0, y1, y2, y3] ++ ([] : List α) = [y0, y1, y2, y3] := rfl
theorem app_5 {α : Type} {y0 y1 y2 y3 y4 : α} : [y0, y1, y2, y3, y4] ++ ([] : List α) = [y0, y1, y2, y3, y4] := rfl
theorem app_6 {α : Type} {y0 y1 y2 y3 y4 y5 : α} : [y0, y1, y2, y3, y4, y5] ++ ([] : List α) = [y0, y1, y2, y3, y4, y5] := rfl
def ckB (φ : Phi) (ix : List Nat) (rs : List Rv) (ks : List Rv) (ς : Env) : Res Rv := if isPerm ix (rs ++ ks).length then kCall φ [] (pickL ix (rs ++ ks)) ς else .stuck
def ckA (φ : Phi) (ix : List Nat) (mk : Env → Res (List Rv)) (rs : List Rv) (ς : Env) : Res Rv := (mk ς).bind (ckB φ ix rs)
theorem ev_callK {φ : Phi} {ix : List Nat} : mCallK φ ix ms mk ς = (ms ς).bind (ckA φ ix mk) := rfl
theorem ckA_ {φ : Phi} {ix : List Nat} : ckA φ ix mk rs ς = (mk ς).bind (ckB φ ix rs) := rfl
theorem ckB_ {φ : Phi} {ix : List Nat} : ckB φ ix rs ks ς = if isPerm ix (rs ++ ks).length then kCall φ [] (pickL ix (rs ++ ks)) ς else .stuck := rfl
def addA (ra rb : Rv) (o : Option PyData) (ς : Env) : Res Rv := match o with
  | some z => .ok (.tm (.d z)) ς
  | none => kCat ra rb ς
def addK (ra rb : Rv) (ς : Env) : Option U → Option U → Res Rv
  | some (.d x), some (.d y) => addA ra rb (dSum x y) ς
  | some _, some _ => kCat ra rb ς
  | _, _ => .stuck
theorem ev_add : mAdd ma mb ς = (ma ς).bind (m2K mb kAdd) := rfl
theorem ev_kAdd : kAdd ra rb ς = addK ra rb ς (ra.peek ς) (rb.peek ς) := by
  unfold kAdd addK
  cases ra.peek ς with
  | none => rfl
  | some p =>
    cases rb.peek ς with
    | none => cases p <;> rfl
    | some q =>
      cases p <;> cases q <;> rfl
theorem addK_d : addK ra rb ς (some (.d x)) (some (.d y)) = addA ra rb (dSum x y) ς := rfl
theorem addK_o : addK ra rb ς (some (.own us)) (some (.own ws)) = kCat ra rb ς := rfl
theorem addK_od : addK ra rb ς (some (.own us)) (some (.d y)) = kCat ra rb ς := rfl
theorem addK_do : addK ra rb ς (some (.d x)) (some (.own ws)) = kCat ra rb ς := rfl
theorem addA_ : addA ra rb (some z) ς = .ok (.tm (.d z)) ς := rfl
theorem addA_n : addA ra rb none ς = kCat ra rb ς := rfl
theorem dSum_i : dSum (.int a) (.int b) = some (.int (a + b)) := rfl
theorem dSum_l : dSum (.list xs) (.list ys) = none := rfl
theorem dSum_t (h : xs.length + ys.length ≤ sizeLine) : dSum (.tuple xs) (.tuple ys) = some (.tuple (xs ++ ys)) := if_pos h
def catB (ws : List U) : Option (List U × Env) → Res Rv
  | some (us, ς2) => if us.length + ws.length ≤ sizeLine then .ok (.tm (.own (us ++ ws))) ς2 else .stuck
  | none => .stuck
def catA (ra : Rv) : Option (List U × Env) → Res Rv
  | some (ws, ς1) => catB ws (itemsU ra ς1)
  | none => .stuck
def iuO (i : Nat) (ς : Env) : Option (List PyData) → Option (List U × Env)
  | some xs => some (xs.map .d, ς.set i (some (.own (xs.map .d))))
  | none => none
def iuK (i : Nat) (ς : Env) : Option (Option U) → Option (List U × Env)
  | some (some (.own us)) => iuO i ς (U.toDs us)
  | some (some (.d (.list xs))) => some (xs.map .d, ς)
  | _ => none
theorem ev_kCat : kCat ra rb ς = catA ra (itemsU rb ς) := by
  unfold kCat catA
  cases itemsU rb ς with
  | none => rfl
  | some p =>
    simp only
    unfold catB
    cases itemsU ra p.2 <;> rfl
theorem catA_ : catA ra (some (ws, ς)) = catB ws (itemsU ra ς) := rfl
theorem catB_ (h : us.length + ws.length ≤ sizeLine) : catB ws (some (us, ς)) = .ok (.tm (.own (us ++ ws))) ς := if_pos h
theorem iu_o : itemsU (.tm (.own us)) ς = some (us, ς) := rfl
theorem iu_l : itemsU (.tm (.d (.list xs))) ς = some (xs.map .d, ς) := rfl
theorem iu_p : itemsU (.pl i) ς = iuK i ς ς[i]? := by
  simp only [itemsU]
  cases ς[i]? with
  | none => rfl
  | some o =>
    cases o with
    | none => rfl
    | some w =>
      cases w with
      | own us => rfl
      | d x => cases x <;> rfl
      | _ => rfl
theorem iuK_o : iuK i ς (some (some (.own us))) = iuO i ς (U.toDs us) := rfl
theorem iuK_l : iuK i ς (some (some (.d (.list xs)))) = some (xs.map .d, ς) := rfl
theorem iuO_ : iuO i ς (some xs) = some (xs.map .d, ς.set i (some (.own (xs.map .d)))) := rfl
def mulB (j : Int) : Option (List U × Env) → Res Rv
  | some (us, ς1) => match U.toDs us with
    | some xs => if -1000000 ≤ j ∧ j ≤ 1000000 ∧ xs.length * j.toNat ≤ sizeLine then .ok (.tm (.own (List.replicate j.toNat (xs.map U.d)).flatten)) ς1 else .stuck
    | none => .stuck
  | none => .stuck
def mulK (ra : Rv) (ς : Env) : Option U → Option U → Res Rv
  | some (.d (.int i)), some (.d (.int j)) => scK (fMul (.int i) (.int j)) ς
  | some _, some (.d (.int j)) => mulB j (itemsU ra ς)
  | _, _ => .stuck
theorem ev_mul : mMul ma mb ς = (ma ς).bind (m2K mb kMul) := rfl
theorem ev_kMul : kMul ra rb ς = mulK ra ς (ra.peek ς) (rb.peek ς) := by
  unfold kMul mulK
  cases rb.peek ς with
  | none => cases ra.peek ς with
    | none => rfl
    | some p => cases p <;> first | rfl | (rename_i x; cases x <;> rfl)
  | some q =>
    cases q with
    | d y =>
      cases y with
      | int j =>
        cases ra.peek ς with
        | none => rfl
        | some p =>
          cases p with
          | d x => cases x <;> simp only [] <;> first | rfl | (unfold mulB scK; cases fMul _ _ <;> rfl) | (unfold mulB; cases itemsU ra ς <;> rfl)
          | _ => simp only []; unfold mulB; cases itemsU ra ς <;> rfl
      | _ => cases ra.peek ς with
        | none => rfl
        | some p => cases p <;> first | rfl | (rename_i x; cases x <;> rfl)
    | _ => cases ra.peek ς with
      | none => rfl
      | some p => cases p <;> first | rfl | (rename_i x; cases x <;> rfl)
theorem mulK_i : mulK ra ς (some (.d (.int a))) (some (.d (.int b))) = scK (fMul (.int a) (.int b)) ς := rfl
theorem mulK_o : mulK ra ς (some (.own us)) (some (.d (.int b))) = mulB b (itemsU ra ς) := rfl
theorem mulK_l : mulK ra ς (some (.d (.list xs))) (some (.d (.int b))) = mulB b (itemsU ra ς) := rfl
def mulC (j : Int) (ς1 : Env) : Option (List PyData) → Res Rv
  | some xs => if -1000000 ≤ j ∧ j ≤ 1000000 ∧ xs.length * j.toNat ≤ sizeLine then .ok (.tm (.own (List.replicate j.toNat (xs.map U.d)).flatten)) ς1 else .stuck
  | none => .stuck
theorem mulB_ : mulB a (some (us, ς)) = mulC a ς (U.toDs us) := by
  simp only [mulB]
  cases U.toDs us <;> rfl
def slL (lo hi : Option Int) : Option (Bool × List PyData × Env) → Res Rv
  | some (false, xs, ς1) => .ok (.tm (.own ((cutL xs lo hi).map .d))) ς1
  | _ => .stuck
def slK (r : Rv) (lo hi : Option Int) (ς : Env) : Option U → Res Rv
  | some (.d (.tuple xs)) => .ok (.tm (.d (.tuple (cutL xs lo hi)))) ς
  | _ => slL lo hi (itemsD r ς)
def slc3 (r : Rv) (lo : Option Int) (hi : Option Int) (ς : Env) : Res Rv := kSlc r lo hi ς
def slc2 (mh : Env → Res (Option Int)) (r : Rv) (lo : Option Int) (ς : Env) : Res Rv := (mh ς).bind (slc3 r lo)
def slc1 (ml mh : Env → Res (Option Int)) (r : Rv) (ς : Env) : Res Rv := (ml ς).bind (slc2 mh r)
def osK (o : Option PyData) (ς : Env) : Res (Option Int) := match o with
  | some (.int i) => .ok (some i) ς
  | _ => .stuck
theorem ev_slc {ml mh : Env → Res (Option Int)} : mSlc m ml mh ς = (m ς).bind (slc1 ml mh) := rfl
theorem slc1_ {ml mh : Env → Res (Option Int)} : slc1 ml mh r ς = (ml ς).bind (slc2 mh r) := rfl
theorem slc2_ {mh : Env → Res (Option Int)} {o : Option Int} : slc2 mh r o ς = (mh ς).bind (slc3 r o) := rfl
theorem slc3_ {o p : Option Int} : slc3 r o p ς = slK r o p ς (r.peek ς) := by
  simp only [slc3, kSlc]
  cases r.peek ς with
  | none => rfl
  | some w =>
    cases w with
    | d x => cases x <;> rfl
    | _ => rfl
theorem ev_On : mOn ς = .ok none ς := rfl
theorem ev_Os : mOs m ς = (m ς).bind kOs := rfl
theorem ev_kOs : kOs r ς = osK (pk1 some r ς) ς := rfl
theorem osK_ : osK (some (.int a)) ς = .ok (some a) ς := rfl
theorem slK_t {o p : Option Int} : slK r o p ς (some (.d (.tuple xs))) = .ok (.tm (.d (.tuple (cutL xs o p)))) ς := rfl
theorem slK_l {o p : Option Int} : slK r o p ς (some (.d (.list xs))) = slL o p (itemsD r ς) := rfl
theorem slK_o {o p : Option Int} : slK r o p ς (some (.own us)) = slL o p (itemsD r ς) := rfl
theorem slL_ {o p : Option Int} : slL o p (some (false, xs, ς)) = .ok (.tm (.own ((cutL xs o p).map .d))) ς := rfl
def idO (ς : Env) : Option (List PyData) → Option (Bool × List PyData × Env)
  | some xs => some (false, xs, ς)
  | none => none
def idP (i : Nat) (ς : Env) : Option (List PyData) → Option (Bool × List PyData × Env)
  | some xs => some (false, xs, ς.set i (some (.own (xs.map .d))))
  | none => none
def idK (i : Nat) (ς : Env) : Option (Option U) → Option (Bool × List PyData × Env)
  | some (some (.own us)) => idP i ς (U.toDs us)
  | some (some (.d (.list xs))) => some (false, xs, ς)
  | some (some (.d (.tuple xs))) => some (true, xs, ς)
  | _ => none
theorem id_o : itemsD (.tm (.own us)) ς = idO ς (U.toDs us) := by
  simp only [itemsD]
  cases U.toDs us <;> rfl
theorem id_l : itemsD (.tm (.d (.list xs))) ς = some (false, xs, ς) := rfl
theorem id_t : itemsD (.tm (.d (.tuple xs))) ς = some (true, xs, ς) := rfl
theorem id_p : itemsD (.pl i) ς = idK i ς ς[i]? := by
  simp only [itemsD]
  cases ς[i]? with
  | none => rfl
  | some o =>
    cases o with
    | none => rfl
    | some w =>
      cases w with
      | own us => rfl
      | d x => cases x <;> rfl
      | _ => rfl
theorem idO_ : idO ς (some xs) = some (false, xs, ς) := rfl
theorem idP_ : idP i ς (some xs) = some (false, xs, ς.set i (some (.own (xs.map .d)))) := rfl
theorem idK_o : idK i ς (some (some (.own us))) = idP i ς (U.toDs us) := rfl
theorem idK_l : idK i ς (some (some (.d (.list xs)))) = some (false, xs, ς) := rfl
theorem idK_t : idK i ς (some (some (.d (.tuple xs)))) = some (true, xs, ς) := rfl
def listK : Option (Bool × List PyData × Env) → Res Rv
  | some (_, xs, ς1) => .ok (.tm (.own (xs.map .d))) ς1
  | none => .stuck
def tplB : Option (Bool × List PyData × Env) → Res Rv
  | some (false, xs, ς1) => .ok (.tm (.d (.tuple xs))) ς1
  | _ => .stuck
def tplK (r : Rv) (ς : Env) : Option U → Res Rv
  | some (.d (.tuple xs)) => .ok (.tm (.d (.tuple xs))) ς
  | _ => tplB (itemsD r ς)
def srtK : Option (Bool × List PyData × Env) → Res Rv
  | some (false, xs, ς1) => if srtOk xs then .ok (.tm (.own ((sortD xs).map .d))) ς1 else .stuck
  | _ => .stuck
def bestK (mx : Bool) : Option (Bool × List PyData × Env) → Res Rv
  | some (_, x :: xs, ς1) => if bestOk (x :: xs) then .ok (.tm (.d (if mx then maxD x xs else minD x xs))) ς1 else .stuck
  | _ => .stuck
theorem ev_list : kList [r] ς = listK (itemsD r ς) := by
  simp only [kList]
  cases itemsD r ς <;> rfl
theorem listK_ : listK (some (c, xs, ς)) = .ok (.tm (.own (xs.map .d))) ς := rfl
theorem ev_tuple : kTuple [r] ς = tplK r ς (r.peek ς) := by
  simp only [kTuple]
  cases r.peek ς with
  | none => rfl
  | some w =>
    cases w with
    | d x => cases x <;> rfl
    | _ => rfl
theorem tplK_t : tplK r ς (some (.d (.tuple xs))) = .ok (.tm (.d (.tuple xs))) ς := rfl
theorem tplK_l : tplK r ς (some (.d (.list xs))) = tplB (itemsD r ς) := rfl
theorem tplK_o : tplK r ς (some (.own us)) = tplB (itemsD r ς) := rfl
theorem tplB_ : tplB (some (false, xs, ς)) = .ok (.tm (.d (.tuple xs))) ς := rfl
theorem ev_sorted : kSorted [r] ς = srtK (itemsD r ς) := by
  simp only [kSorted]
  cases itemsD r ς with
  | none => rfl
  | some p =>
    obtain ⟨t, xs, ς1⟩ := p
    cases t <;> cases xs <;> rfl
theorem srtK_ (h : srtOk xs = true) : srtK (some (false, xs, ς)) = .ok (.tm (.own ((sortD xs).map .d))) ς := if_pos h
theorem ev_best : kBest c [r] ς = bestK c (itemsD r ς) := by
  simp only [kBest]
  cases itemsD r ς with
  | none => rfl
  | some p =>
    obtain ⟨t, xs, ς1⟩ := p
    cases t <;> cases xs <;> rfl
theorem bestK_ (h : bestOk (x :: xs) = true) : bestK c (some (d, x :: xs, ς)) = .ok (.tm (.d (if c then maxD x xs else minD x xs))) ς := if_pos h
def mut5 (i : Nat) (ς : Env) : Option (U × U) → Res Rv
  | some (c, w') => .ok (.tm c) (ς.set i (some w'))
  | none => .stuck
def mut4 (i : Nat) (mk : MK) (us : List U) (ς : Env) : Option (Option U) → Res Rv
  | some (some w) => mut5 i ς (mk w us)
  | _ => .stuck
def mut3 (i : Nat) (mk : MK) : Option (List U × Env) → Res Rv
  | some (us, ς3) => kMut i [] mk us ς3
  | none => .stuck
def mut2 (i : Nat) (mk : MK) (rs : List Rv) (ς : Env) : Res Rv := mut3 i mk (shares rs ς)
def mut1 (i : Nat) (mk : MK) (ms : Env → Res (List Rv)) (ς : Env) : Option (Option U) → Res Rv
  | some (some (.own _)) => (ms ς).bind (mut2 i mk)
  | _ => .stuck
theorem bind_congr {α β : Type} (r : Res α) {k l : α → Env → Res β} (h : ∀ a ς, k a ς = l a ς) : r.bind k = r.bind l := by
  cases r with
  | ok a ς => exact h a ς
  | exc x ς => rfl
  | stuck => rfl
theorem ev_mut {mk : MK} : mMut mk (pN i) ms ς = mut1 i mk ms ς ς[i]? := by
  unfold mMut pN
  cases hc : ς[i]? with
  | none => rfl
  | some o =>
    cases o with
    | none => rfl
    | some w =>
      show (if isOwn (getP ς i []) then _ else _) = _
      have e : getP ς i [] = some w := by unfold getP; rw [hc]; cases w <;> rfl
      rw [e]
      cases w with
      | own us =>
        show (ms ς).bind _ = (ms ς).bind _
        exact bind_congr _ fun rs ς2 => (by unfold mut2 mut3; cases shares rs ς2 <;> rfl)
      | _ => rfl
theorem mut1_ {mk : MK} : mut1 i mk ms ς (some (some (.own us))) = (ms ς).bind (mut2 i mk) := rfl
theorem mut2_ {mk : MK} : mut2 i mk rs ς = mut3 i mk (shares rs ς) := rfl
theorem mut3_ {mk : MK} : mut3 i mk (some (us, ς)) = kMut i [] mk us ς := rfl
theorem ev_kMut {mk : MK} : kMut i [] mk us ς = mut4 i mk us ς ς[i]? := by
  unfold kMut getP setP mut4
  cases hc : ς[i]? with
  | none => rfl
  | some o =>
    cases o with
    | none => rfl
    | some w =>
      have e : w.gt [] = some w := by cases w <;> rfl
      simp only [e]
      unfold mut5
      cases mk w us with
      | none => rfl
      | some p =>
        have e2 : w.pt [] p.2 = p.2 := by cases w <;> rfl
        simp only [e2]
theorem mut4_ {mk : MK} : mut4 i mk us ς (some (some v)) = mut5 i ς (mk v us) := rfl
theorem mut5_ : mut5 i ς (some (v, v1)) = .ok (.tm v) (ς.set i (some v1)) := rfl
theorem mkAppend_ (h : us.length < 1000000) : mkAppend (.own us) [v] = some (.d .none, .own (us ++ [v])) := if_pos h
theorem mkExtend_o (h : us.length + ws.length ≤ 1000000) : mkExtend (.own us) [.own ws] = some (.d .none, .own (us ++ ws)) := if_pos h
theorem mkExtend_l (h : us.length + xs.length ≤ 1000000) : mkExtend (.own us) [.d (.list xs)] = some (.d .none, .own (us ++ xs.map .d)) := if_pos h
theorem ev_for {src : Env → Res (List U)} : mFor src G A ς = (src ς).bind (loopF G A) := rfl
def rngK (ς : Env) : Option (List PyData) → Res (List U)
  | some [.int j] => if big62 j then .ok (rngU 0 j.toNat) ς else .stuck
  | _ => .stuck
def rngK2 (ς : Env) : Option (List PyData) → Res (List U)
  | some [.int i, .int j] => if big62 i && big62 j then .ok (rngU i (j - i).toNat) ς else .stuck
  | _ => .stuck
theorem big62_of {a : Int} (h : -1000000000000 ≤ a) (h2 : a ≤ 1000000000000) : big62 a = true := by
  have e62 : (2 : Int) ^ 62 = 4611686018427387904 := by decide +kernel
  unfold big62
  rw [e62, Bool.and_eq_true]
  exact ⟨decide_eq_true (by omega), decide_eq_true (by omega)⟩
theorem ev_rng1 : mRng1 ms ς = (ms ς).bind kRng1 := rfl
theorem ev_kRng1 : kRng1 rs ς = rngK ς (peeks ς rs) := rfl
theorem rngK_ (h : big62 a = true) : rngK ς (some [.int a]) = .ok (rngU 0 a.toNat) ς := if_pos h
theorem ev_rng2 : mRng2 ms ς = (ms ς).bind kRng2 := rfl
theorem ev_kRng2 : kRng2 rs ς = rngK2 ς (peeks ς rs) := rfl
theorem rngK2_ (h : big62 a = true) (h2 : big62 b = true) : rngK2 ς (some [.int a, .int b]) = .ok (rngU a (b - a).toNat) ς := if_pos (by rw [h, h2]; rfl)
def srcK : Option (PyData × Env) → Res (List U)
  | some (x, ς1) => match itemsOf x with
    | some xs => .ok (xs.map .d) ς1
    | none => .stuck
  | none => .stuck
theorem ev_src : mSrc m ς = (m ς).bind kSrc := rfl
theorem ev_kSrc : kSrc r ς = srcK (r.shareD ς) := rfl
theorem srcK_l : srcK (some (.list xs, ς)) = .ok (xs.map .d) ς := rfl
theorem srcK_t : srcK (some (.tuple xs, ς)) = .ok (xs.map .d) ς := rfl
def enK : Option (List PyData × Env) → Res (List U)
  | some ([x], ς1) => match seqOf x with
    | some (_, xs) => .ok (enumU 0 xs) ς1
    | none => .stuck
  | _ => .stuck
def zpK : Option (List PyData × Env) → Res (List U)
  | some ([x, y], ς1) => match seqOf x, seqOf y with
    | some (_, xs), some (_, ys) => .ok (zipU xs ys) ς1
    | _, _ => .stuck
  | _ => .stuck
theorem ev_enum : mEnum ms ς = (ms ς).bind kEnum := rfl
theorem ev_kEnum : kEnum rs ς = enK (sharesD rs ς) := rfl
theorem enK_l : enK (some ([.list xs], ς)) = .ok (enumU 0 xs) ς := rfl
theorem enK_t : enK (some ([.tuple xs], ς)) = .ok (enumU 0 xs) ς := rfl
theorem ev_zip : mZip ms ς = (ms ς).bind kZip := rfl
theorem ev_kZip : kZip rs ς = zpK (sharesD rs ς) := rfl
theorem zpK_ll : zpK (some ([.list xs, .list ys], ς)) = .ok (zipU xs ys) ς := rfl
theorem zpK_lt : zpK (some ([.list xs, .tuple ys], ς)) = .ok (zipU xs ys) ς := rfl
theorem zpK_tl : zpK (some ([.tuple xs, .list ys], ς)) = .ok (zipU xs ys) ς := rfl
theorem zpK_tt : zpK (some ([.tuple xs, .tuple ys], ς)) = .ok (zipU xs ys) ς := rfl
def lc2 (vs : List Nat) (ς1 : Env) : Res (List U) → Res Rv
  | .ok acc ς2 => .ok (.tm (.own acc)) (restE ς1 vs ς2)
  | _ => .stuck
def lcK (vs : List Nat) (g : U → Env → Option Env) (tt : Env → Res Bool) (te : Env → Res Rv) (us : List U) (ς1 : Env) : Res Rv :=
  if us.length ≤ 1000000 then lc2 vs ς1 (loopC vs g tt te us [] (wipeE ς1 vs)) else .stuck
theorem ev_lc {vs : List Nat} {src : Env → Res (List U)} : mLc vs src G t m ς = (src ς).bind (lcK vs G t m) := by
  unfold mLc
  refine bind_congr _ fun us ς1 => ?_
  unfold lcK lc2
  split
  · cases loopC vs G t m us [] (wipeE ς1 vs) <;> rfl
  · rfl
theorem lcK_ {vs : List Nat} (h : us.length ≤ 1000000) : lcK vs G t m us ς = lc2 vs ς (loopC vs G t m us [] (wipeE ς vs)) := if_pos h
theorem lc2_ {vs : List Nat} : lc2 vs ς (.ok us ς1) = .ok (.tm (.own us)) (restE ς vs ς1) := rfl
def chK (f' : PyData → PyData → Option PyData) (mc : Env → Res Rv) (rb : Rv) (ς : Env) : Option PyData → Res Rv
  | some (.bool true) => (mc ς).bind (kSc f' rb)
  | some (.bool false) => .ok (.tm (.d (.bool false))) ς
  | _ => .stuck
def ch1 (f f' : PyData → PyData → Option PyData) (mc : Env → Res Rv) (ra rb : Rv) (ς : Env) : Res Rv := chK f' mc rb ς (pk2 f ra rb ς)
theorem ev_ch : mCh f g ma mb mc ς = (ma ς).bind (m2K mb (ch1 f g mc)) := by
  unfold mCh m2
  refine bind_congr _ fun ra ς1 => ?_
  unfold m2K
  refine bind_congr _ fun rb ς2 => ?_
  simp only [ch1, kCh]
  cases pk2 f ra rb ς2 with
  | none => rfl
  | some x =>
    cases x with
    | bool b => cases b <;> rfl
    | _ => rfl
theorem ch1_ : ch1 f g mc ra rb ς = chK g mc rb ς (pk2 f ra rb ς) := rfl
theorem chK_t : chK g mc rb ς (some (.bool true)) = (mc ς).bind (kSc g rb) := rfl
theorem chK_f : chK g mc rb ς (some (.bool false)) = .ok (.tm (.d (.bool false))) ς := rfl
def isK (ς : Env) : Option Bool → Res Rv
  | some b => .ok (.tm (.d (.bool b))) ς
  | none => .stuck
theorem ev_isi {T : String} : kIsi T [r, ra] ς = isK ς (pk1 (isiD T) r ς) := by
  simp only [kIsi]
  cases pk1 (isiD T) r ς <;> rfl
theorem isK_ : isK ς (some c) = .ok (.tm (.d (.bool c))) ς := rfl
theorem isiD_int : isiD "int" x = some x.isInt := rfl
theorem isiD_bool : isiD "bool" x = some x.isBool := rfl
theorem isiD_str : isiD "str" x = some x.isStr := rfl
theorem isiD_list : isiD "list" x = some x.isList := rfl
theorem isiD_tuple : isiD "tuple" x = some x.isTuple := rfl
theorem isInt_none : PyData.isInt (.none ) = false := rfl
theorem isInt_bool : PyData.isInt (.bool c) = true := rfl
theorem isInt_int : PyData.isInt (.int a) = true := rfl
theorem isInt_str {q : Str} : PyData.isInt (.str q) = false := rfl
theorem isInt_list : PyData.isInt (.list xs) = false := rfl
theorem isInt_tuple : PyData.isInt (.tuple xs) = false := rfl
theorem isBool_none : PyData.isBool (.none ) = false := rfl
theorem isBool_bool : PyData.isBool (.bool c) = true := rfl
theorem isBool_int : PyData.isBool (.int a) = false := rfl
theorem isBool_str {q : Str} : PyData.isBool (.str q) = false := rfl
theorem isBool_list : PyData.isBool (.list xs) = false := rfl
theorem isBool_tuple : PyData.isBool (.tuple xs) = false := rfl
theorem isStr_none : PyData.isStr (.none ) = false := rfl
theorem isStr_bool : PyData.isStr (.bool c) = false := rfl
theorem isStr_int : PyData.isStr (.int a) = false := rfl
theorem isStr_str {q : Str} : PyData.isStr (.str q) = true := rfl
theorem isStr_list : PyData.isStr (.list xs) = false := rfl
theorem isStr_tuple : PyData.isStr (.tuple xs) = false := rfl
theorem isList_none : PyData.isList (.none ) = false := rfl
theorem isList_bool : PyData.isList (.bool c) = false := rfl
theorem isList_int : PyData.isList (.int a) = false := rfl
theorem isList_str {q : Str} : PyData.isList (.str q) = false := rfl
theorem isList_list : PyData.isList (.list xs) = true := rfl
theorem isList_tuple : PyData.isList (.tuple xs) = false := rfl
theorem isTuple_none : PyData.isTuple (.none ) = false := rfl
theorem isTuple_bool : PyData.isTuple (.bool c) = false := rfl
theorem isTuple_int : PyData.isTuple (.int a) = false := rfl
theorem isTuple_str {q : Str} : PyData.isTuple (.str q) = false := rfl
theorem isTuple_list : PyData.isTuple (.list xs) = false := rfl
theorem isTuple_tuple : PyData.isTuple (.tuple xs) = true := rfl
theorem ev_k1D : k1D h rs ς = scaK (fun ds => match ds with | [d] => h d | _ => none) ς (peeks ς rs) := by
  unfold k1D
  exact ev_kScA
def d1K (h : PyData → Option PyData) : Option (List PyData) → Env → Res Rv
  | some [d], ς => scK (h d) ς
  | _, _ => .stuck
theorem ev_k1 : k1D h rs ς = d1K h (peeks ς rs) ς := by
  unfold k1D kScA d1K
  cases hp : peeks ς rs with
  | none => rfl
  | some l =>
    match l with
    | [] => rfl
    | [d] => simp only []; unfold scK; cases h d <;> rfl
    | _ :: _ :: _ => rfl
theorem d1K_ : d1K h (some [x]) ς = scK (h x) ς := rfl
def fiK (cnt t : Bool) (ς : Env) : Option U → Option (List PyData) → Res Rv
  | some (.d (.list xs)), some [d] => if t = false ∧ lev 8 d = true then (if cnt then .ok (.tm (.d (.int ((xs.countP fun z => PyData.eqv z d : Nat) : Int)))) ς else match SeqAt.dataPlace xs d with
      | some j => .ok (.tm (.d (.int (j : Nat)))) ς
      | none => .stuck) else .stuck
  | some (.d (.tuple xs)), some [d] => if t = true ∧ lev 8 d = true then (if cnt then .ok (.tm (.d (.int ((xs.countP fun z => PyData.eqv z d : Nat) : Int)))) ς else match SeqAt.dataPlace xs d with
      | some j => .ok (.tm (.d (.int (j : Nat)))) ς
      | none => .stuck) else .stuck
  | _, _ => .stuck
def runK (n : Nat) (prot : Nat → Bool) : Res Fl → FR
  | .ok (.ret u) ς => .ok u (outs prot 0 n ς)
  | .ok .next ς => .ok (.d .none) (outs prot 0 n ς)
  | .exc x ς => .exc x (outs prot 0 n ς)
  | _ => .stuck
def pad (n : Nat) (us : List U) : Env := us.map some ++ List.replicate (n - us.length) none
theorem ev_run {prot : Nat → Bool} : runFn i j prot A us = runK j prot (A (pad i us)) := by
  simp only [runFn, pad]
  cases A (us.map some ++ List.replicate (i - us.length) none) with
  | ok a ς => cases a <;> rfl
  | _ => rfl
theorem pad_s (n : Nat) (u : U) (us : List U) : pad (n + 1) (u :: us) = some u :: pad n us := by
  simp only [pad, List.map_cons, List.length_cons, Nat.add_sub_add_right, List.cons_append]
theorem padn_0 : pad 0 [] = [] := rfl
theorem padc_0 : pad 1 (v :: us) = some v :: pad 0 us := pad_s 0 v us
theorem padn_1 : pad 1 [] = [none] := rfl
theorem padc_1 : pad 2 (v :: us) = some v :: pad 1 us := pad_s 1 v us
theorem padn_2 : pad 2 [] = [none, none] := rfl
theorem padc_2 : pad 3 (v :: us) = some v :: pad 2 us := pad_s 2 v us
theorem padn_3 : pad 3 [] = [none, none, none] := rfl
theorem padc_3 : pad 4 (v :: us) = some v :: pad 3 us := pad_s 3 v us
theorem padn_4 : pad 4 [] = [none, none, none, none] := rfl
theorem padc_4 : pad 5 (v :: us) = some v :: pad 4 us := pad_s 4 v us
theorem padn_5 : pad 5 [] = [none, none, none, none, none] := rfl
theorem padc_5 : pad 6 (v :: us) = some v :: pad 5 us := pad_s 5 v us
theorem padn_6 : pad 6 [] = [none, none, none, none, none, none] := rfl
theorem padc_6 : pad 7 (v :: us) = some v :: pad 6 us := pad_s 6 v us
theorem padn_7 : pad 7 [] = [none, none, none, none, none, none, none] := rfl
theorem padc_7 : pad 8 (v :: us) = some v :: pad 7 us := pad_s 7 v us
theorem padn_8 : pad 8 [] = [none, none, none, none, none, none, none, none] := rfl
theorem padc_8 : pad 9 (v :: us) = some v :: pad 8 us := pad_s 8 v us
theorem padn_9 : pad 9 [] = [none, none, none, none, none, none, none, none, none] := rfl
theorem padc_9 : pad 10 (v :: us) = some v :: pad 9 us := pad_s 9 v us
theorem padn_10 : pad 10 [] = [none, none, none, none, none, none, none, none, none, none] := rfl
theorem padc_10 : pad 11 (v :: us) = some v :: pad 10 us := pad_s 10 v us
theorem padn_11 : pad 11 [] = [none, none, none, none, none, none, none, none, none, none, none] := rfl
theorem padc_11 : pad 12 (v :: us) = some v :: pad 11 us := pad_s 11 v us
theorem padn_12 : pad 12 [] = [none, none, none, none, none, none, none, none, none, none, none, none] := rfl
theorem padc_12 : pad 13 (v :: us) = some v :: pad 12 us := pad_s 12 v us
theorem padn_13 : pad 13 [] = [none, none, none, none, none, none, none, none, none, none, none, none, none] := rfl
theorem padc_13 : pad 14 (v :: us) = some v :: pad 13 us := pad_s 13 v us
theorem padn_14 : pad 14 [] = [none, none, none, none, none, none, none, none, none, none, none, none, none, none] := rfl
theorem padc_14 : pad 15 (v :: us) = some v :: pad 14 us := pad_s 14 v us
theorem padn_15 : pad 15 [] = [none, none, none, none, none, none, none, none, none, none, none, none, none, none, none] := rfl
theorem padc_15 : pad 16 (v :: us) = some v :: pad 15 us := pad_s 15 v us
theorem padn_16 : pad 16 [] = [none, none, none, none, none, none, none, none, none, none, none, none, none, none, none, none] := rfl
theorem padc_16 : pad 17 (v :: us) = some v :: pad 16 us := pad_s 16 v us
theorem padn_17 : pad 17 [] = [none, none, none, none, none, none, none, none, none, none, none, none, none, none, none, none, none] := rfl
theorem padc_17 : pad 18 (v :: us) = some v :: pad 17 us := pad_s 17 v us
theorem padn_18 : pad 18 [] = [none, none, none, none, none, none, none, none, none, none, none, none, none, none, none, none, none, none] := rfl
theorem padc_18 : pad 19 (v :: us) = some v :: pad 18 us := pad_s 18 v us
theorem padn_19 : pad 19 [] = [none, none, none, none, none, none, none, none, none, none, none, none, none, none, none, none, none, none, none] := rfl
theorem padc_19 : pad 20 (v :: us) = some v :: pad 19 us := pad_s 19 v us
theorem padn_20 : pad 20 [] = [none, none, none, none, none, none, none, none, none, none, none, none, none, none, none, none, none, none, none, none] := rfl
theorem padc_20 : pad 21 (v :: us) = some v :: pad 20 us := pad_s 20 v us
theorem padn_21 : pad 21 [] = [none, none, none, none, none, none, none, none, none, none, none, none, none, none, none, none, none, none, none, none, none] := rfl
theorem padc_21 : pad 22 (v :: us) = some v :: pad 21 us := pad_s 21 v us
theorem padn_22 : pad 22 [] = [none, none, none, none, none, none, none, none, none, none, none, none, none, none, none, none, none, none, none, none, none, none] := rfl
theorem padc_22 : pad 23 (v :: us) = some v :: pad 22 us := pad_s 22 v us
theorem padn_23 : pad 23 [] = [none, none, none, none, none, none, none, none, none, none, none, none, none, none, none, none, none, none, none, none, none, none, none] := rfl
theorem padc_23 : pad 24 (v :: us) = some v :: pad 23 us := pad_s 23 v us
theorem padn_24 : pad 24 [] = [none, none, none, none, none, none, none, none, none, none, none, none, none, none, none, none, none, none, none, none, none, none, none, none] := rfl
theorem padc_24 : pad 25 (v :: us) = some v :: pad 24 us := pad_s 24 v us
theorem padn_25 : pad 25 [] = [none, none, none, none, none, none, none, none, none, none, none, none, none, none, none, none, none, none, none, none, none, none, none, none, none] := rfl
theorem padc_25 : pad 26 (v :: us) = some v :: pad 25 us := pad_s 25 v us
theorem padn_26 : pad 26 [] = [none, none, none, none, none, none, none, none, none, none, none, none, none, none, none, none, none, none, none, none, none, none, none, none, none, none] := rfl
theorem padc_26 : pad 27 (v :: us) = some v :: pad 26 us := pad_s 26 v us
theorem ixn_1_m1 : ixN 1 (-1) = some 0 := by decide +kernel
theorem ixn_1_0 : ixN 1 0 = some 0 := by decide +kernel
theorem ixn_2_m2 : ixN 2 (-2) = some 0 := by decide +kernel
theorem ixn_2_m1 : ixN 2 (-1) = some 1 := by decide +kernel
theorem ixn_2_0 : ixN 2 0 = some 0 := by decide +kernel
theorem ixn_2_1 : ixN 2 1 = some 1 := by decide +kernel
theorem ixn_3_m2 : ixN 3 (-2) = some 1 := by decide +kernel
theorem ixn_3_m1 : ixN 3 (-1) = some 2 := by decide +kernel
theorem ixn_3_0 : ixN 3 0 = some 0 := by decide +kernel
theorem ixn_3_1 : ixN 3 1 = some 1 := by decide +kernel
theorem ixn_3_2 : ixN 3 2 = some 2 := by decide +kernel
theorem ixn_4_m2 : ixN 4 (-2) = some 2 := by decide +kernel
theorem ixn_4_m1 : ixN 4 (-1) = some 3 := by decide +kernel
theorem ixn_4_0 : ixN 4 0 = some 0 := by decide +kernel
theorem ixn_4_1 : ixN 4 1 = some 1 := by decide +kernel
theorem ixn_4_2 : ixN 4 2 = some 2 := by decide +kernel
theorem ixn_4_3 : ixN 4 3 = some 3 := by decide +kernel
theorem ixn_5_m2 : ixN 5 (-2) = some 3 := by decide +kernel
theorem ixn_5_m1 : ixN 5 (-1) = some 4 := by decide +kernel
theorem ixn_5_0 : ixN 5 0 = some 0 := by decide +kernel
theorem ixn_5_1 : ixN 5 1 = some 1 := by decide +kernel
theorem ixn_5_2 : ixN 5 2 = some 2 := by decide +kernel
theorem ixn_5_3 : ixN 5 3 = some 3 := by decide +kernel
theorem ixn_5_4 : ixN 5 4 = some 4 := by decide +kernel
theorem ixn_6_m2 : ixN 6 (-2) = some 4 := by decide +kernel
theorem ixn_6_m1 : ixN 6 (-1) = some 5 := by decide +kernel
theorem ixn_6_0 : ixN 6 0 = some 0 := by decide +kernel
theorem ixn_6_1 : ixN 6 1 = some 1 := by decide +kernel
theorem ixn_6_2 : ixN 6 2 = some 2 := by decide +kernel
theorem ixn_6_3 : ixN 6 3 = some 3 := by decide +kernel
theorem ixn_6_4 : ixN 6 4 = some 4 := by decide +kernel
theorem ixn_6_5 : ixN 6 5 = some 5 := by decide +kernel
theorem ixn_7_m2 : ixN 7 (-2) = some 5 := by decide +kernel
theorem ixn_7_m1 : ixN 7 (-1) = some 6 := by decide +kernel
theorem ixn_7_0 : ixN 7 0 = some 0 := by decide +kernel
theorem ixn_7_1 : ixN 7 1 = some 1 := by decide +kernel
theorem ixn_7_2 : ixN 7 2 = some 2 := by decide +kernel
theorem ixn_7_3 : ixN 7 3 = some 3 := by decide +kernel
theorem ixn_7_4 : ixN 7 4 = some 4 := by decide +kernel
theorem ixn_7_5 : ixN 7 5 = some 5 := by decide +kernel
theorem ixn_7_6 : ixN 7 6 = some 6 := by decide +kernel
theorem ixn_8_m2 : ixN 8 (-2) = some 6 := by decide +kernel
theorem ixn_8_m1 : ixN 8 (-1) = some 7 := by decide +kernel
theorem ixn_8_0 : ixN 8 0 = some 0 := by decide +kernel
theorem ixn_8_1 : ixN 8 1 = some 1 := by decide +kernel
theorem ixn_8_2 : ixN 8 2 = some 2 := by decide +kernel
theorem ixn_8_3 : ixN 8 3 = some 3 := by decide +kernel
theorem ixn_8_4 : ixN 8 4 = some 4 := by decide +kernel
theorem ixn_8_5 : ixN 8 5 = some 5 := by decide +kernel
theorem ixn_8_6 : ixN 8 6 = some 6 := by decide +kernel
theorem ixn_8_7 : ixN 8 7 = some 7 := by decide +kernel
theorem ixn_9_m2 : ixN 9 (-2) = some 7 := by decide +kernel
theorem ixn_9_m1 : ixN 9 (-1) = some 8 := by decide +kernel
theorem ixn_9_0 : ixN 9 0 = some 0 := by decide +kernel
theorem ixn_9_1 : ixN 9 1 = some 1 := by decide +kernel
theorem ixn_9_2 : ixN 9 2 = some 2 := by decide +kernel
theorem ixn_9_3 : ixN 9 3 = some 3 := by decide +kernel
theorem ixn_9_4 : ixN 9 4 = some 4 := by decide +kernel
theorem ixn_9_5 : ixN 9 5 = some 5 := by decide +kernel
theorem ixn_9_6 : ixN 9 6 = some 6 := by decide +kernel
theorem ixn_9_7 : ixN 9 7 = some 7 := by decide +kernel
theorem ixn_9_8 : ixN 9 8 = some 8 := by decide +kernel
theorem ixn_10_m2 : ixN 10 (-2) = some 8 := by decide +kernel
theorem ixn_10_m1 : ixN 10 (-1) = some 9 := by decide +kernel
theorem ixn_10_0 : ixN 10 0 = some 0 := by decide +kernel
theorem ixn_10_1 : ixN 10 1 = some 1 := by decide +kernel
theorem ixn_10_2 : ixN 10 2 = some 2 := by decide +kernel
theorem ixn_10_3 : ixN 10 3 = some 3 := by decide +kernel
theorem ixn_10_4 : ixN 10 4 = some 4 := by decide +kernel
theorem ixn_10_5 : ixN 10 5 = some 5 := by decide +kernel
theorem ixn_10_6 : ixN 10 6 = some 6 := by decide +kernel
theorem ixn_10_7 : ixN 10 7 = some 7 := by decide +kernel
theorem ixn_10_8 : ixN 10 8 = some 8 := by decide +kernel
theorem ixn_10_9 : ixN 10 9 = some 9 := by decide +kernel
theorem ixn_11_m2 : ixN 11 (-2) = some 9 := by decide +kernel
theorem ixn_11_m1 : ixN 11 (-1) = some 10 := by decide +kernel
theorem ixn_11_0 : ixN 11 0 = some 0 := by decide +kernel
theorem ixn_11_1 : ixN 11 1 = some 1 := by decide +kernel
theorem ixn_11_2 : ixN 11 2 = some 2 := by decide +kernel
theorem ixn_11_3 : ixN 11 3 = some 3 := by decide +kernel
theorem ixn_11_4 : ixN 11 4 = some 4 := by decide +kernel
theorem ixn_11_5 : ixN 11 5 = some 5 := by decide +kernel
theorem ixn_11_6 : ixN 11 6 = some 6 := by decide +kernel
theorem ixn_11_7 : ixN 11 7 = some 7 := by decide +kernel
theorem ixn_11_8 : ixN 11 8 = some 8 := by decide +kernel
theorem ixn_11_9 : ixN 11 9 = some 9 := by decide +kernel
theorem ixn_11_10 : ixN 11 10 = some 10 := by decide +kernel
theorem ixn_12_m2 : ixN 12 (-2) = some 10 := by decide +kernel
theorem ixn_12_m1 : ixN 12 (-1) = some 11 := by decide +kernel
theorem ixn_12_0 : ixN 12 0 = some 0 := by decide +kernel
theorem ixn_12_1 : ixN 12 1 = some 1 := by decide +kernel
theorem ixn_12_2 : ixN 12 2 = some 2 := by decide +kernel
theorem ixn_12_3 : ixN 12 3 = some 3 := by decide +kernel
theorem ixn_12_4 : ixN 12 4 = some 4 := by decide +kernel
theorem ixn_12_5 : ixN 12 5 = some 5 := by decide +kernel
theorem ixn_12_6 : ixN 12 6 = some 6 := by decide +kernel
theorem ixn_12_7 : ixN 12 7 = some 7 := by decide +kernel
theorem ixn_12_8 : ixN 12 8 = some 8 := by decide +kernel
theorem ixn_12_9 : ixN 12 9 = some 9 := by decide +kernel
theorem ixn_12_10 : ixN 12 10 = some 10 := by decide +kernel
theorem ixn_12_11 : ixN 12 11 = some 11 := by decide +kernel
theorem ixn_13_m2 : ixN 13 (-2) = some 11 := by decide +kernel
theorem ixn_13_m1 : ixN 13 (-1) = some 12 := by decide +kernel
theorem ixn_13_0 : ixN 13 0 = some 0 := by decide +kernel
theorem ixn_13_1 : ixN 13 1 = some 1 := by decide +kernel
theorem ixn_13_2 : ixN 13 2 = some 2 := by decide +kernel
theorem ixn_13_3 : ixN 13 3 = some 3 := by decide +kernel
theorem ixn_13_4 : ixN 13 4 = some 4 := by decide +kernel
theorem ixn_13_5 : ixN 13 5 = some 5 := by decide +kernel
theorem ixn_13_6 : ixN 13 6 = some 6 := by decide +kernel
theorem ixn_13_7 : ixN 13 7 = some 7 := by decide +kernel
theorem ixn_13_8 : ixN 13 8 = some 8 := by decide +kernel
theorem ixn_13_9 : ixN 13 9 = some 9 := by decide +kernel
theorem ixn_13_10 : ixN 13 10 = some 10 := by decide +kernel
theorem ixn_13_11 : ixN 13 11 = some 11 := by decide +kernel
theorem ixn_13_12 : ixN 13 12 = some 12 := by decide +kernel
theorem runK_r {prot : Nat → Bool} : runK j prot (.ok (.ret v) ς) = .ok v (outs prot 0 j ς) := rfl
theorem runK_n {prot : Nat → Bool} : runK j prot (.ok .next ς) = .ok (.d .none) (outs prot 0 j ς) := rfl
theorem runK_x {prot : Nat → Bool} : runK j prot (.exc e ς) = .exc e (outs prot 0 j ς) := rfl
end
/-- all of them at once -/
theorem evs : type_of% (And.intro (@get_0) ( And.intro (@put_0) ( And.intro (@get_1) ( And.intro (@put_1) ( And.intro (@get_2) ( And.intro (@put_2) ( And.intro (@get_3) ( And.intro (@put_3) ( And.intro (@get_4) ( And.intro (@put_4) ( And.intro (@get_5) ( And.intro (@put_5) ( And.intro (@get_6) ( And.intro (@put_6) ( And.intro (@get_7) ( And.intro (@put_7) ( And.intro (@get_8) ( And.intro (@put_8) ( And.intro (@get_9) ( And.intro (@put_9) ( And.intro (@get_10) ( And.intro (@put_10) ( And.intro (@get_11) ( And.intro (@put_11) ( And.intro (@get_12) ( And.intro (@put_12) ( And.intro (@get_13) ( And.intro (@put_13) ( And.intro (@get_14) ( And.intro (@put_14) ( And.intro (@get_15) ( And.intro (@put_15) ( And.intro (@get_16) ( And.intro (@put_16) ( And.intro (@get_17) ( And.intro (@put_17) ( And.intro (@get_18) ( And.intro (@put_18) ( And.intro (@get_19) ( And.intro (@put_19) ( And.intro (@get_20) ( And.intro (@put_20) ( And.intro (@get_21) ( And.intro (@put_21) ( And.intro (@get_22) ( And.intro (@put_22) ( And.intro (@get_23) ( And.intro (@put_23) ( And.intro (@get_24) ( And.intro (@put_24) ( And.intro (@get_25) ( And.intro (@put_25) ( And.intro (@at_0) ( And.intro (@ix_0) ( And.intro (@at_1) ( And.intro (@ix_1) ( And.intro (@at_2) ( And.intro (@ix_2) ( And.intro (@at_3) ( And.intro (@ix_3) ( And.intro (@at_4) ( And.intro (@ix_4) ( And.intro (@at_5) ( And.intro (@ix_5) ( And.intro (@at_6) ( And.intro (@ix_6) ( And.intro (@at_7) ( And.intro (@ix_7) ( And.intro (@at_8) ( And.intro (@ix_8) ( And.intro (@ev_bind) ( And.intro (@ev_bindx) ( And.intro (@ev_binds) ( And.intro (@ev_seq) ( And.intro (@seqK_n) ( And.intro (@seqK_r) ( And.intro (@seqK_b) ( And.intro (@seqK_c) ( And.intro (@seqK_x) ( And.intro (@ev_next) ( And.intro (@ev_brk) ( And.intro (@ev_cnt) ( And.intro (@ev_yes) ( And.intro (@ev_if) ( And.intro (@ifK_t) ( And.intro (@ifK_f) ( And.intro (@ev_not) ( And.intro (@notK_) ( And.intro (@ev_and) ( And.intro (@andK_t) ( And.intro (@andK_f) ( And.intro (@ev_or) ( And.intro (@orK_t) ( And.intro (@orK_f) ( And.intro (@ev_rB) ( And.intro (@rbK_) ( And.intro (@ev_andV) ( And.intro (@andW_) ( And.intro (@andV_t) ( And.intro (@andV_f) ( And.intro (@ev_orV) ( And.intro (@orW_) ( And.intro (@orV_t) ( And.intro (@orV_f) ( And.intro (@ev_notV) ( And.intro (@notW_) ( And.intro (@notVK_) ( And.intro (@ev_var) ( And.intro (@varK_) ( And.intro (@ev_c) ( And.intro (@ev_u) ( And.intro (@peek_tm) ( And.intro (@peek_pl) ( And.intro (@pkK_) ( And.intro (@ev_pk1) ( And.intro (@p1K_d) ( And.intro (@p1K_o) ( And.intro (@p1O_) ( And.intro (@toDs_n) ( And.intro (@toDs_c) ( And.intro (@toDs_o) ( And.intro (@tdO_) ( And.intro (@tdK_) ( And.intro (@toDs_m) ( And.intro (@ev_pk2) ( And.intro (@p2K_dd) ( And.intro (@p2K_od) ( And.intro (@p2K_do) ( And.intro (@p2K_oo) ( And.intro (@p2A_) ( And.intro (@p2B_) ( And.intro (@p2C_) ( And.intro (@ev_kSc) ( And.intro (@scK_) ( And.intro (@ev_kTs) ( And.intro (@tsK_) ( And.intro (@ev_kSc1) ( And.intro (@ev_kB) ( And.intro (@ev_mB) ( And.intro (@ev_toT) ( And.intro (@ev_m2) ( And.intro (@m2K_) ( And.intro (@ev_m1) ( And.intro (@ev_op) ( And.intro (@ev_ts) ( And.intro (@ev_un) ( And.intro (@ev_nil) ( And.intro (@ev_cons) ( And.intro (@consK_) ( And.intro (@consK2_) ( And.intro (@ev_mA) ( And.intro (@share_tm) ( And.intro (@share_pl) ( And.intro (@shK_d) ( And.intro (@shK_o) ( And.intro (@shO_) ( And.intro (@ev_shareD) ( And.intro (@sdK_d) ( And.intro (@sdK_o) ( And.intro (@sdO_) ( And.intro (@shs_n) ( And.intro (@shs_c) ( And.intro (@shsA_) ( And.intro (@shsB_) ( And.intro (@shd_n) ( And.intro (@shd_c) ( And.intro (@shdA_) ( And.intro (@shdB_) ( And.intro (@ev_asg) ( And.intro (@asgK_) ( And.intro (@asg2_) ( And.intro (@asg3_) ( And.intro (@gN_0) ( And.intro (@gN_1) ( And.intro (@gN_2) ( And.intro (@gN_3) ( And.intro (@gN_4) ( And.intro (@gN_5) ( And.intro (@gN_6) ( And.intro (@gN_7) ( And.intro (@gN_8) ( And.intro (@gN_9) ( And.intro (@gN_10) ( And.intro (@gN_11) ( And.intro (@gN_12) ( And.intro (@gN_13) ( And.intro (@gN_14) ( And.intro (@gN_15) ( And.intro (@gN_16) ( And.intro (@gN_17) ( And.intro (@gN_18) ( And.intro (@gN_19) ( And.intro (@gN_20) ( And.intro (@gN_21) ( And.intro (@gN_22) ( And.intro (@gN_23) ( And.intro (@gN_24) ( And.intro (@gN_25) ( And.intro (@gsN_) ( And.intro (@gsC_) ( And.intro (@gscK_) ( And.intro (@gT_1) ( And.intro (@gP_1) ( And.intro (@gO_1) ( And.intro (@gL_1) ( And.intro (@gT_2) ( And.intro (@gP_2) ( And.intro (@gO_2) ( And.intro (@gL_2) ( And.intro (@gT_3) ( And.intro (@gP_3) ( And.intro (@gO_3) ( And.intro (@gL_3) ( And.intro (@gT_4) ( And.intro (@gP_4) ( And.intro (@gO_4) ( And.intro (@gL_4) ( And.intro (@gT_5) ( And.intro (@gP_5) ( And.intro (@gO_5) ( And.intro (@gL_5) ( And.intro (@gT_6) ( And.intro (@gP_6) ( And.intro (@gO_6) ( And.intro (@gL_6) ( And.intro (@ev_intAt) ( And.intro (@inK_) ( And.intro (@ev_gIx) ( And.intro (@gx0_) ( And.intro (@gx1_) ( And.intro (@gx2_) ( And.intro (@ev_kSet) ( And.intro (@ks1_) ( And.intro (@ks3_) ( And.intro (@ev_ret) ( And.intro (@retK_) ( And.intro (@ret2_) ( And.intro (@take_tm) ( And.intro (@take_pl) ( And.intro (@tkK_d) ( And.intro (@tkK_o) ( And.intro (@ev_expr) ( And.intro (@exprK_) ( And.intro (@ev_tup) ( And.intro (@tupK_) ( And.intro (@ev_lst) ( And.intro (@lstK_) ( And.intro (@tup2_0) ( And.intro (@lst2_0) ( And.intro (@tup2_1) ( And.intro (@lst2_1) ( And.intro (@tup2_2) ( And.intro (@lst2_2) ( And.intro (@tup2_3) ( And.intro (@lst2_3) ( And.intro (@tup2_4) ( And.intro (@lst2_4) ( And.intro (@tup2_5) ( And.intro (@lst2_5) ( And.intro (@tup2_6) ( And.intro (@lst2_6) ( And.intro (@tup2_7) ( And.intro (@lst2_7) ( And.intro (@tup2_8) ( And.intro (@lst2_8) ( And.intro (@ev_ix) ( And.intro (@ev_kIx) ( And.intro (@ixK_) ( And.intro (@kIx1_o) ( And.intro (@kIx1_l) ( And.intro (@kIx1_t) ( And.intro (@kIx1_p) ( And.intro (@ixP_o) ( And.intro (@ixP_l) ( And.intro (@ixP_t) ( And.intro (@ixU_) ( And.intro (@ixD_) ( And.intro (@ixO_) ( And.intro (@ixO2_d) ( And.intro (@peeks_n) ( And.intro (@peeks_c) ( And.intro (@pksK_d) ( And.intro (@pksK_o) ( And.intro (@pksD_) ( And.intro (@pksO_) ( And.intro (@ev_kScA) ( And.intro (@scaK_) ( And.intro (@ev_len) ( And.intro (@lenK_o) ( And.intro (@lenK_l) ( And.intro (@lenK_t) ( And.intro (@fAbs_) ( And.intro (@fMax2_) ( And.intro (@fMin2_) ( And.intro (@fInt_) ( And.intro (@fGcd_) ( And.intro (@fInt_b) ( And.intro (@fAdd_) ( And.intro (@fSub_) ( And.intro (@fSub_bb) ( And.intro (@fNeg_) ( And.intro (@fMod_) ( And.intro (@fDiv_) ( And.intro (@fDivN_) ( And.intro (@fPow_) ( And.intro (@fLt_) ( And.intro (@fGt_) ( And.intro (@fLe_) ( And.intro (@fGe_) ( And.intro (@fMul_) ( And.intro (@fEq_ii) ( And.intro (@fNe_ii) ( And.intro (@ev_divmod) ( And.intro (@dmK_) ( And.intro (@ev_par) ( And.intro (@ev_kPar) ( And.intro (@par2K_) ( And.intro (@par3K_) ( And.intro (@setAll_n) ( And.intro (@setAll_c) ( And.intro (@setA_) ( And.intro (@ev_asgT) ( And.intro (@agtK_) ( And.intro (@agt2_2) ( And.intro (@agt2_3) ( And.intro (@agt2_4) ( And.intro (@agt2_5) ( And.intro (@ev_call) ( And.intro (@ev_kCall) ( And.intro (@callA_) ( And.intro (@callR_) ( And.intro (@callR_x) ( And.intro (@ta_n) ( And.intro (@ta_c) ( And.intro (@taA_) ( And.intro (@taB_) ( And.intro (@take1_tm) ( And.intro (@take1_pl) ( And.intro (@t1K_d) ( And.intro (@t1K_o) ( And.intro (@gb_n) ( And.intro (@gb_t) ( And.intro (@gb_p) ( And.intro (@gbK_n) ( And.intro (@gbK_s) ( And.intro (@app_0) ( And.intro (@app_1) ( And.intro (@app_2) ( And.intro (@app_3) ( And.intro (@app_4) ( And.intro (@app_5) ( And.intro (@app_6) ( And.intro (@ev_callK) ( And.intro (@ckA_) ( And.intro (@ev_add) ( And.intro (@ev_kAdd) ( And.intro (@addK_d) ( And.intro (@addK_o) ( And.intro (@addK_od) ( And.intro (@addK_do) ( And.intro (@addA_) ( And.intro (@addA_n) ( And.intro (@dSum_i) ( And.intro (@dSum_l) ( And.intro (@dSum_t) ( And.intro (@ev_kCat) ( And.intro (@catA_) ( And.intro (@catB_) ( And.intro (@iu_o) ( And.intro (@iu_l) ( And.intro (@iu_p) ( And.intro (@iuK_o) ( And.intro (@iuK_l) ( And.intro (@iuO_) ( And.intro (@ev_mul) ( And.intro (@ev_kMul) ( And.intro (@mulK_i) ( And.intro (@mulK_o) ( And.intro (@mulK_l) ( And.intro (@mulB_) ( And.intro (@ev_slc) ( And.intro (@slc1_) ( And.intro (@slc2_) ( And.intro (@slc3_) ( And.intro (@ev_On) ( And.intro (@ev_Os) ( And.intro (@ev_kOs) ( And.intro (@osK_) ( And.intro (@slK_t) ( And.intro (@slK_l) ( And.intro (@slK_o) ( And.intro (@slL_) ( And.intro (@id_o) ( And.intro (@id_l) ( And.intro (@id_t) ( And.intro (@id_p) ( And.intro (@idO_) ( And.intro (@idP_) ( And.intro (@idK_o) ( And.intro (@idK_l) ( And.intro (@idK_t) ( And.intro (@ev_list) ( And.intro (@listK_) ( And.intro (@ev_tuple) ( And.intro (@tplK_t) ( And.intro (@tplK_l) ( And.intro (@tplK_o) ( And.intro (@tplB_) ( And.intro (@ev_sorted) ( And.intro (@srtK_) ( And.intro (@ev_best) ( And.intro (@bestK_) ( And.intro (@ev_mut) ( And.intro (@mut1_) ( And.intro (@mut2_) ( And.intro (@mut3_) ( And.intro (@ev_kMut) ( And.intro (@mut4_) ( And.intro (@mut5_) ( And.intro (@mkAppend_) ( And.intro (@mkExtend_o) ( And.intro (@mkExtend_l) ( And.intro (@ev_for) ( And.intro (@ev_rng1) ( And.intro (@ev_kRng1) ( And.intro (@rngK_) ( And.intro (@ev_rng2) ( And.intro (@ev_kRng2) ( And.intro (@rngK2_) ( And.intro (@ev_src) ( And.intro (@ev_kSrc) ( And.intro (@srcK_l) ( And.intro (@srcK_t) ( And.intro (@ev_enum) ( And.intro (@ev_kEnum) ( And.intro (@enK_l) ( And.intro (@enK_t) ( And.intro (@ev_zip) ( And.intro (@ev_kZip) ( And.intro (@zpK_ll) ( And.intro (@zpK_lt) ( And.intro (@zpK_tl) ( And.intro (@zpK_tt) ( And.intro (@ev_lc) ( And.intro (@lcK_) ( And.intro (@lc2_) ( And.intro (@ev_ch) ( And.intro (@ch1_) ( And.intro (@chK_t) ( And.intro (@chK_f) ( And.intro (@ev_isi) ( And.intro (@isK_) ( And.intro (@isiD_int) ( And.intro (@isiD_bool) ( And.intro (@isiD_str) ( And.intro (@isiD_list) ( And.intro (@isiD_tuple) ( And.intro (@isInt_none) ( And.intro (@isInt_bool) ( And.intro (@isInt_int) ( And.intro (@isInt_str) ( And.intro (@isInt_list) ( And.intro (@isInt_tuple) ( And.intro (@isBool_none) ( And.intro (@isBool_bool) ( And.intro (@isBool_int) ( And.intro (@isBool_str) ( And.intro (@isBool_list) ( And.intro (@isBool_tuple) ( And.intro (@isStr_none) ( And.intro (@isStr_bool) ( And.intro (@isStr_int) ( And.intro (@isStr_str) ( And.intro (@isStr_list) ( And.intro (@isStr_tuple) ( And.intro (@isList_none) ( And.intro (@isList_bool) ( And.intro (@isList_int) ( And.intro (@isList_str) ( And.intro (@isList_list) ( And.intro (@isList_tuple) ( And.intro (@isTuple_none) ( And.intro (@isTuple_bool) ( And.intro (@isTuple_int) ( And.intro (@isTuple_str) ( And.intro (@isTuple_list) ( And.intro (@isTuple_tuple) ( And.intro (@ev_k1) ( And.intro (@d1K_) ( And.intro (@ev_run) ( And.intro (@padn_0) ( And.intro (@padc_0) ( And.intro (@padn_1) ( And.intro (@padc_1) ( And.intro (@padn_2) ( And.intro (@padc_2) ( And.intro (@padn_3) ( And.intro (@padc_3) ( And.intro (@padn_4) ( And.intro (@padc_4) ( And.intro (@padn_5) ( And.intro (@padc_5) ( And.intro (@padn_6) ( And.intro (@padc_6) ( And.intro (@padn_7) ( And.intro (@padc_7) ( And.intro (@padn_8) ( And.intro (@padc_8) ( And.intro (@padn_9) ( And.intro (@padc_9) ( And.intro (@padn_10) ( And.intro (@padc_10) ( And.intro (@padn_11) ( And.intro (@padc_11) ( And.intro (@padn_12) ( And.intro (@padc_12) ( And.intro (@padn_13) ( And.intro (@padc_13) ( And.intro (@padn_14) ( And.intro (@padc_14) ( And.intro (@padn_15) ( And.intro (@padc_15) ( And.intro (@padn_16) ( And.intro (@padc_16) ( And.intro (@padn_17) ( And.intro (@padc_17) ( And.intro (@padn_18) ( And.intro (@padc_18) ( And.intro (@padn_19) ( And.intro (@padc_19) ( And.intro (@padn_20) ( And.intro (@padc_20) ( And.intro (@padn_21) ( And.intro (@padc_21) ( And.intro (@padn_22) ( And.intro (@padc_22) ( And.intro (@padn_23) ( And.intro (@padc_23) ( And.intro (@padn_24) ( And.intro (@padc_24) ( And.intro (@padn_25) ( And.intro (@padc_25) ( And.intro (@padn_26) ( And.intro (@padc_26) ( And.intro (@ixn_1_m1) ( And.intro (@ixn_1_0) ( And.intro (@ixn_2_m2) ( And.intro (@ixn_2_m1) ( And.intro (@ixn_2_0) ( And.intro (@ixn_2_1) ( And.intro (@ixn_3_m2) ( And.intro (@ixn_3_m1) ( And.intro (@ixn_3_0) ( And.intro (@ixn_3_1) ( And.intro (@ixn_3_2) ( And.intro (@ixn_4_m2) ( And.intro (@ixn_4_m1) ( And.intro (@ixn_4_0) ( And.intro (@ixn_4_1) ( And.intro (@ixn_4_2) ( And.intro (@ixn_4_3) ( And.intro (@ixn_5_m2) ( And.intro (@ixn_5_m1) ( And.intro (@ixn_5_0) ( And.intro (@ixn_5_1) ( And.intro (@ixn_5_2) ( And.intro (@ixn_5_3) ( And.intro (@ixn_5_4) ( And.intro (@ixn_6_m2) ( And.intro (@ixn_6_m1) ( And.intro (@ixn_6_0) ( And.intro (@ixn_6_1) ( And.intro (@ixn_6_2) ( And.intro (@ixn_6_3) ( And.intro (@ixn_6_4) ( And.intro (@ixn_6_5) ( And.intro (@ixn_7_m2) ( And.intro (@ixn_7_m1) ( And.intro (@ixn_7_0) ( And.intro (@ixn_7_1) ( And.intro (@ixn_7_2) ( And.intro (@ixn_7_3) ( And.intro (@ixn_7_4) ( And.intro (@ixn_7_5) ( And.intro (@ixn_7_6) ( And.intro (@ixn_8_m2) ( And.intro (@ixn_8_m1) ( And.intro (@ixn_8_0) ( And.intro (@ixn_8_1) ( And.intro (@ixn_8_2) ( And.intro (@ixn_8_3) ( And.intro (@ixn_8_4) ( And.intro (@ixn_8_5) ( And.intro (@ixn_8_6) ( And.intro (@ixn_8_7) ( And.intro (@ixn_9_m2) ( And.intro (@ixn_9_m1) ( And.intro (@ixn_9_0) ( And.intro (@ixn_9_1) ( And.intro (@ixn_9_2) ( And.intro (@ixn_9_3) ( And.intro (@ixn_9_4) ( And.intro (@ixn_9_5) ( And.intro (@ixn_9_6) ( And.intro (@ixn_9_7) ( And.intro (@ixn_9_8) ( And.intro (@ixn_10_m2) ( And.intro (@ixn_10_m1) ( And.intro (@ixn_10_0) ( And.intro (@ixn_10_1) ( And.intro (@ixn_10_2) ( And.intro (@ixn_10_3) ( And.intro (@ixn_10_4) ( And.intro (@ixn_10_5) ( And.intro (@ixn_10_6) ( And.intro (@ixn_10_7) ( And.intro (@ixn_10_8) ( And.intro (@ixn_10_9) ( And.intro (@ixn_11_m2) ( And.intro (@ixn_11_m1) ( And.intro (@ixn_11_0) ( And.intro (@ixn_11_1) ( And.intro (@ixn_11_2) ( And.intro (@ixn_11_3) ( And.intro (@ixn_11_4) ( And.intro (@ixn_11_5) ( And.intro (@ixn_11_6) ( And.intro (@ixn_11_7) ( And.intro (@ixn_11_8) ( And.intro (@ixn_11_9) ( And.intro (@ixn_11_10) ( And.intro (@ixn_12_m2) ( And.intro (@ixn_12_m1) ( And.intro (@ixn_12_0) ( And.intro (@ixn_12_1) ( And.intro (@ixn_12_2) ( And.intro (@ixn_12_3) ( And.intro (@ixn_12_4) ( And.intro (@ixn_12_5) ( And.intro (@ixn_12_6) ( And.intro (@ixn_12_7) ( And.intro (@ixn_12_8) ( And.intro (@ixn_12_9) ( And.intro (@ixn_12_10) ( And.intro (@ixn_12_11) ( And.intro (@ixn_13_m2) ( And.intro (@ixn_13_m1) ( And.intro (@ixn_13_0) ( And.intro (@ixn_13_1) ( And.intro (@ixn_13_2) ( And.intro (@ixn_13_3) ( And.intro (@ixn_13_4) ( And.intro (@ixn_13_5) ( And.intro (@ixn_13_6) ( And.intro (@ixn_13_7) ( And.intro (@ixn_13_8) ( And.intro (@ixn_13_9) ( And.intro (@ixn_13_10) ( And.intro (@ixn_13_11) ( And.intro (@ixn_13_12) ( And.intro (@runK_r) ( And.intro (@runK_n) (@runK_x))))))))))))))))))))))))))))))))))))))))))))))))))))))))))))))))))))))))))))))))))))))))))))))))))))))))))))))))))))))))))))))))))))))))))))))))))))))))))))))))))))))))))))))))))))))))))))))))))))))))))))))))))))))))))))))))))))))))))))))))))))))))))))))))))))))))))))))))))))))))))))))))))))))))))))))))))))))))))))))))))))))))))))))))))))))))))))))))))))))))))))))))))))))))))))))))))))))))))))))))))))))))))))))))))))))))))))))))))))))))))))))))))))))))))))))))))))))))))))))))))))))))))))))))))))))))))))))))))))))))))))))))))))))))))))))))))))))))))))))))))))))))))))))))))))))))))))))))))))))))))))))))))))))))))))))))))))))))))))))))))))))))))))))))))))))) := And.intro (@get_0) ( And.intro (@put_0) ( And.intro (@get_1) ( And.intro (@put_1) ( And.intro (@get_2) ( And.intro (@put_2) ( And.intro (@get_3) ( And.intro (@put_3) ( And.intro (@get_4) ( And.intro (@put_4) ( And.intro (@get_5) ( And.intro (@put_5) ( And.intro (@get_6) ( And.intro (@put_6) ( And.intro (@get_7) ( And.intro (@put_7) ( And.intro (@get_8) ( And.intro (@put_8) ( And.intro (@get_9) ( And.intro (@put_9) ( And.intro (@get_10) ( And.intro (@put_10) ( And.intro (@get_11) ( And.intro (@put_11) ( And.intro (@get_12) ( And.intro (@put_12) ( And.intro (@get_13) ( And.intro (@put_13) ( And.intro (@get_14) ( And.intro (@put_14) ( And.intro (@get_15) ( And.intro (@put_15) ( And.intro (@get_16) ( And.intro (@put_16) ( And.intro (@get_17) ( And.intro (@put_17) ( And.intro (@get_18) ( And.intro (@put_18) ( And.intro (@get_19) ( And.intro (@put_19) ( And.intro (@get_20) ( And.intro (@put_20) ( And.intro (@get_21) ( And.intro (@put_21) ( And.intro (@get_22) ( And.intro (@put_22) ( And.intro (@get_23) ( And.intro (@put_23) ( And.intro (@get_24) ( And.intro (@put_24) ( And.intro (@get_25) ( And.intro (@put_25) ( And.intro (@at_0) ( And.intro (@ix_0) ( And.intro (@at_1) ( And.intro (@ix_1) ( And.intro (@at_2) ( And.intro (@ix_2) ( And.intro (@at_3) ( And.intro (@ix_3) ( And.intro (@at_4) ( And.intro (@ix_4) ( And.intro (@at_5) ( And.intro (@ix_5) ( And.intro (@at_6) ( And.intro (@ix_6) ( And.intro (@at_7) ( And.intro (@ix_7) ( And.intro (@at_8) ( And.intro (@ix_8) ( And.intro (@ev_bind) ( And.intro (@ev_bindx) ( And.intro (@ev_binds) ( And.intro (@ev_seq) ( And.intro (@seqK_n) ( And.intro (@seqK_r) ( And.intro (@seqK_b) ( And.intro (@seqK_c) ( And.intro (@seqK_x) ( And.intro (@ev_next) ( And.intro (@ev_brk) ( And.intro (@ev_cnt) ( And.intro (@ev_yes) ( And.intro (@ev_if) ( And.intro (@ifK_t) ( And.intro (@ifK_f) ( And.intro (@ev_not) ( And.intro (@notK_) ( And.intro (@ev_and) ( And.intro (@andK_t) ( And.intro (@andK_f) ( And.intro (@ev_or) ( And.intro (@orK_t) ( And.intro (@orK_f) ( And.intro (@ev_rB) ( And.intro (@rbK_) ( And.intro (@ev_andV) ( And.intro (@andW_) ( And.intro (@andV_t) ( And.intro (@andV_f) ( And.intro (@ev_orV) ( And.intro (@orW_) ( And.intro (@orV_t) ( And.intro (@orV_f) ( And.intro (@ev_notV) ( And.intro (@notW_) ( And.intro (@notVK_) ( And.intro (@ev_var) ( And.intro (@varK_) ( And.intro (@ev_c) ( And.intro (@ev_u) ( And.intro (@peek_tm) ( And.intro (@peek_pl) ( And.intro (@pkK_) ( And.intro (@ev_pk1) ( And.intro (@p1K_d) ( And.intro (@p1K_o) ( And.intro (@p1O_) ( And.intro (@toDs_n) ( And.intro (@toDs_c) ( And.intro (@toDs_o) ( And.intro (@tdO_) ( And.intro (@tdK_) ( And.intro (@toDs_m) ( And.intro (@ev_pk2) ( And.intro (@p2K_dd) ( And.intro (@p2K_od) ( And.intro (@p2K_do) ( And.intro (@p2K_oo) ( And.intro (@p2A_) ( And.intro (@p2B_) ( And.intro (@p2C_) ( And.intro (@ev_kSc) ( And.intro (@scK_) ( And.intro (@ev_kTs) ( And.intro (@tsK_) ( And.intro (@ev_kSc1) ( And.intro (@ev_kB) ( And.intro (@ev_mB) ( And.intro (@ev_toT) ( And.intro (@ev_m2) ( And.intro (@m2K_) ( And.intro (@ev_m1) ( And.intro (@ev_op) ( And.intro (@ev_ts) ( And.intro (@ev_un) ( And.intro (@ev_nil) ( And.intro (@ev_cons) ( And.intro (@consK_) ( And.intro (@consK2_) ( And.intro (@ev_mA) ( And.intro (@share_tm) ( And.intro (@share_pl) ( And.intro (@shK_d) ( And.intro (@shK_o) ( And.intro (@shO_) ( And.intro (@ev_shareD) ( And.intro (@sdK_d) ( And.intro (@sdK_o) ( And.intro (@sdO_) ( And.intro (@shs_n) ( And.intro (@shs_c) ( And.intro (@shsA_) ( And.intro (@shsB_) ( And.intro (@shd_n) ( And.intro (@shd_c) ( And.intro (@shdA_) ( And.intro (@shdB_) ( And.intro (@ev_asg) ( And.intro (@asgK_) ( And.intro (@asg2_) ( And.intro (@asg3_) ( And.intro (@gN_0) ( And.intro (@gN_1) ( And.intro (@gN_2) ( And.intro (@gN_3) ( And.intro (@gN_4) ( And.intro (@gN_5) ( And.intro (@gN_6) ( And.intro (@gN_7) ( And.intro (@gN_8) ( And.intro (@gN_9) ( And.intro (@gN_10) ( And.intro (@gN_11) ( And.intro (@gN_12) ( And.intro (@gN_13) ( And.intro (@gN_14) ( And.intro (@gN_15) ( And.intro (@gN_16) ( And.intro (@gN_17) ( And.intro (@gN_18) ( And.intro (@gN_19) ( And.intro (@gN_20) ( And.intro (@gN_21) ( And.intro (@gN_22) ( And.intro (@gN_23) ( And.intro (@gN_24) ( And.intro (@gN_25) ( And.intro (@gsN_) ( And.intro (@gsC_) ( And.intro (@gscK_) ( And.intro (@gT_1) ( And.intro (@gP_1) ( And.intro (@gO_1) ( And.intro (@gL_1) ( And.intro (@gT_2) ( And.intro (@gP_2) ( And.intro (@gO_2) ( And.intro (@gL_2) ( And.intro (@gT_3) ( And.intro (@gP_3) ( And.intro (@gO_3) ( And.intro (@gL_3) ( And.intro (@gT_4) ( And.intro (@gP_4) ( And.intro (@gO_4) ( And.intro (@gL_4) ( And.intro (@gT_5) ( And.intro (@gP_5) ( And.intro (@gO_5) ( And.intro (@gL_5) ( And.intro (@gT_6) ( And.intro (@gP_6) ( And.intro (@gO_6) ( And.intro (@gL_6) ( And.intro (@ev_intAt) ( And.intro (@inK_) ( And.intro (@ev_gIx) ( And.intro (@gx0_) ( And.intro (@gx1_) ( And.intro (@gx2_) ( And.intro (@ev_kSet) ( And.intro (@ks1_) ( And.intro (@ks3_) ( And.intro (@ev_ret) ( And.intro (@retK_) ( And.intro (@ret2_) ( And.intro (@take_tm) ( And.intro (@take_pl) ( And.intro (@tkK_d) ( And.intro (@tkK_o) ( And.intro (@ev_expr) ( And.intro (@exprK_) ( And.intro (@ev_tup) ( And.intro (@tupK_) ( And.intro (@ev_lst) ( And.intro (@lstK_) ( And.intro (@tup2_0) ( And.intro (@lst2_0) ( And.intro (@tup2_1) ( And.intro (@lst2_1) ( And.intro (@tup2_2) ( And.intro (@lst2_2) ( And.intro (@tup2_3) ( And.intro (@lst2_3) ( And.intro (@tup2_4) ( And.intro (@lst2_4) ( And.intro (@tup2_5) ( And.intro (@lst2_5) ( And.intro (@tup2_6) ( And.intro (@lst2_6) ( And.intro (@tup2_7) ( And.intro (@lst2_7) ( And.intro (@tup2_8) ( And.intro (@lst2_8) ( And.intro (@ev_ix) ( And.intro (@ev_kIx) ( And.intro (@ixK_) ( And.intro (@kIx1_o) ( And.intro (@kIx1_l) ( And.intro (@kIx1_t) ( And.intro (@kIx1_p) ( And.intro (@ixP_o) ( And.intro (@ixP_l) ( And.intro (@ixP_t) ( And.intro (@ixU_) ( And.intro (@ixD_) ( And.intro (@ixO_) ( And.intro (@ixO2_d) ( And.intro (@peeks_n) ( And.intro (@peeks_c) ( And.intro (@pksK_d) ( And.intro (@pksK_o) ( And.intro (@pksD_) ( And.intro (@pksO_) ( And.intro (@ev_kScA) ( And.intro (@scaK_) ( And.intro (@ev_len) ( And.intro (@lenK_o) ( And.intro (@lenK_l) ( And.intro (@lenK_t) ( And.intro (@fAbs_) ( And.intro (@fMax2_) ( And.intro (@fMin2_) ( And.intro (@fInt_) ( And.intro (@fGcd_) ( And.intro (@fInt_b) ( And.intro (@fAdd_) ( And.intro (@fSub_) ( And.intro (@fSub_bb) ( And.intro (@fNeg_) ( And.intro (@fMod_) ( And.intro (@fDiv_) ( And.intro (@fDivN_) ( And.intro (@fPow_) ( And.intro (@fLt_) ( And.intro (@fGt_) ( And.intro (@fLe_) ( And.intro (@fGe_) ( And.intro (@fMul_) ( And.intro (@fEq_ii) ( And.intro (@fNe_ii) ( And.intro (@ev_divmod) ( And.intro (@dmK_) ( And.intro (@ev_par) ( And.intro (@ev_kPar) ( And.intro (@par2K_) ( And.intro (@par3K_) ( And.intro (@setAll_n) ( And.intro (@setAll_c) ( And.intro (@setA_) ( And.intro (@ev_asgT) ( And.intro (@agtK_) ( And.intro (@agt2_2) ( And.intro (@agt2_3) ( And.intro (@agt2_4) ( And.intro (@agt2_5) ( And.intro (@ev_call) ( And.intro (@ev_kCall) ( And.intro (@callA_) ( And.intro (@callR_) ( And.intro (@callR_x) ( And.intro (@ta_n) ( And.intro (@ta_c) ( And.intro (@taA_) ( And.intro (@taB_) ( And.intro (@take1_tm) ( And.intro (@take1_pl) ( And.intro (@t1K_d) ( And.intro (@t1K_o) ( And.intro (@gb_n) ( And.intro (@gb_t) ( And.intro (@gb_p) ( And.intro (@gbK_n) ( And.intro (@gbK_s) ( And.intro (@app_0) ( And.intro (@app_1) ( And.intro (@app_2) ( And.intro (@app_3) ( And.intro (@app_4) ( And.intro (@app_5) ( And.intro (@app_6) ( And.intro (@ev_callK) ( And.intro (@ckA_) ( And.intro (@ev_add) ( And.intro (@ev_kAdd) ( And.intro (@addK_d) ( And.intro (@addK_o) ( And.intro (@addK_od) ( And.intro (@addK_do) ( And.intro (@addA_) ( And.intro (@addA_n) ( And.intro (@dSum_i) ( And.intro (@dSum_l) ( And.intro (@dSum_t) ( And.intro (@ev_kCat) ( And.intro (@catA_) ( And.intro (@catB_) ( And.intro (@iu_o) ( And.intro (@iu_l) ( And.intro (@iu_p) ( And.intro (@iuK_o) ( And.intro (@iuK_l) ( And.intro (@iuO_) ( And.intro (@ev_mul) ( And.intro (@ev_kMul) ( And.intro (@mulK_i) ( And.intro (@mulK_o) ( And.intro (@mulK_l) ( And.intro (@mulB_) ( And.intro (@ev_slc) ( And.intro (@slc1_) ( And.intro (@slc2_) ( And.intro (@slc3_) ( And.intro (@ev_On) ( And.intro (@ev_Os) ( And.intro (@ev_kOs) ( And.intro (@osK_) ( And.intro (@slK_t) ( And.intro (@slK_l) ( And.intro (@slK_o) ( And.intro (@slL_) ( And.intro (@id_o) ( And.intro (@id_l) ( And.intro (@id_t) ( And.intro (@id_p) ( And.intro (@idO_) ( And.intro (@idP_) ( And.intro (@idK_o) ( And.intro (@idK_l) ( And.intro (@idK_t) ( And.intro (@ev_list) ( And.intro (@listK_) ( And.intro (@ev_tuple) ( And.intro (@tplK_t) ( And.intro (@tplK_l) ( And.intro (@tplK_o) ( And.intro (@tplB_) ( And.intro (@ev_sorted) ( And.intro (@srtK_) ( And.intro (@ev_best) ( And.intro (@bestK_) ( And.intro (@ev_mut) ( And.intro (@mut1_) ( And.intro (@mut2_) ( And.intro (@mut3_) ( And.intro (@ev_kMut) ( And.intro (@mut4_) ( And.intro (@mut5_) ( And.intro (@mkAppend_) ( And.intro (@mkExtend_o) ( And.intro (@mkExtend_l) ( And.intro (@ev_for) ( And.intro (@ev_rng1) ( And.intro (@ev_kRng1) ( And.intro (@rngK_) ( And.intro (@ev_rng2) ( And.intro (@ev_kRng2) ( And.intro (@rngK2_) ( And.intro (@ev_src) ( And.intro (@ev_kSrc) ( And.intro (@srcK_l) ( And.intro (@srcK_t) ( And.intro (@ev_enum) ( And.intro (@ev_kEnum) ( And.intro (@enK_l) ( And.intro (@enK_t) ( And.intro (@ev_zip) ( And.intro (@ev_kZip) ( And.intro (@zpK_ll) ( And.intro (@zpK_lt) ( And.intro (@zpK_tl) ( And.intro (@zpK_tt) ( And.intro (@ev_lc) ( And.intro (@lcK_) ( And.intro (@lc2_) ( And.intro (@ev_ch) ( And.intro (@ch1_) ( And.intro (@chK_t) ( And.intro (@chK_f) ( And.intro (@ev_isi) ( And.intro (@isK_) ( And.intro (@isiD_int) ( And.intro (@isiD_bool) ( And.intro (@isiD_str) ( And.intro (@isiD_list) ( And.intro (@isiD_tuple) ( And.intro (@isInt_none) ( And.intro (@isInt_bool) ( And.intro (@isInt_int) ( And.intro (@isInt_str) ( And.intro (@isInt_list) ( And.intro (@isInt_tuple) ( And.intro (@isBool_none) ( And.intro (@isBool_bool) ( And.intro (@isBool_int) ( And.intro (@isBool_str) ( And.intro (@isBool_list) ( And.intro (@isBool_tuple) ( And.intro (@isStr_none) ( And.intro (@isStr_bool) ( And.intro (@isStr_int) ( And.intro (@isStr_str) ( And.intro (@isStr_list) ( And.intro (@isStr_tuple) ( And.intro (@isList_none) ( And.intro (@isList_bool) ( And.intro (@isList_int) ( And.intro (@isList_str) ( And.intro (@isList_list) ( And.intro (@isList_tuple) ( And.intro (@isTuple_none) ( And.intro (@isTuple_bool) ( And.intro (@isTuple_int) ( And.intro (@isTuple_str) ( And.intro (@isTuple_list) ( And.intro (@isTuple_tuple) ( And.intro (@ev_k1) ( And.intro (@d1K_) ( And.intro (@ev_run) ( And.intro (@padn_0) ( And.intro (@padc_0) ( And.intro (@padn_1) ( And.intro (@padc_1) ( And.intro (@padn_2) ( And.intro (@padc_2) ( And.intro (@padn_3) ( And.intro (@padc_3) ( And.intro (@padn_4) ( And.intro (@padc_4) ( And.intro (@padn_5) ( And.intro (@padc_5) ( And.intro (@padn_6) ( And.intro (@padc_6) ( And.intro (@padn_7) ( And.intro (@padc_7) ( And.intro (@padn_8) ( And.intro (@padc_8) ( And.intro (@padn_9) ( And.intro (@padc_9) ( And.intro (@padn_10) ( And.intro (@padc_10) ( And.intro (@padn_11) ( And.intro (@padc_11) ( And.intro (@padn_12) ( And.intro (@padc_12) ( And.intro (@padn_13) ( And.intro (@padc_13) ( And.intro (@padn_14) ( And.intro (@padc_14) ( And.intro (@padn_15) ( And.intro (@padc_15) ( And.intro (@padn_16) ( And.intro (@padc_16) ( And.intro (@padn_17) ( And.intro (@padc_17) ( And.intro (@padn_18) ( And.intro (@padc_18) ( And.intro (@padn_19) ( And.intro (@padc_19) ( And.intro (@padn_20) ( And.intro (@padc_20) ( And.intro (@padn_21) ( And.intro (@padc_21) ( And.intro (@padn_22) ( And.intro (@padc_22) ( And.intro (@padn_23) ( And.intro (@padc_23) ( And.intro (@padn_24) ( And.intro (@padc_24) ( And.intro (@padn_25) ( And.intro (@padc_25) ( And.intro (@padn_26) ( And.intro (@padc_26) ( And.intro (@ixn_1_m1) ( And.intro (@ixn_1_0) ( And.intro (@ixn_2_m2) ( And.intro (@ixn_2_m1) ( And.intro (@ixn_2_0) ( And.intro (@ixn_2_1) ( And.intro (@ixn_3_m2) ( And.intro (@ixn_3_m1) ( And.intro (@ixn_3_0) ( And.intro (@ixn_3_1) ( And.intro (@ixn_3_2) ( And.intro (@ixn_4_m2) ( And.intro (@ixn_4_m1) ( And.intro (@ixn_4_0) ( And.intro (@ixn_4_1) ( And.intro (@ixn_4_2) ( And.intro (@ixn_4_3) ( And.intro (@ixn_5_m2) ( And.intro (@ixn_5_m1) ( And.intro (@ixn_5_0) ( And.intro (@ixn_5_1) ( And.intro (@ixn_5_2) ( And.intro (@ixn_5_3) ( And.intro (@ixn_5_4) ( And.intro (@ixn_6_m2) ( And.intro (@ixn_6_m1) ( And.intro (@ixn_6_0) ( And.intro (@ixn_6_1) ( And.intro (@ixn_6_2) ( And.intro (@ixn_6_3) ( And.intro (@ixn_6_4) ( And.intro (@ixn_6_5) ( And.intro (@ixn_7_m2) ( And.intro (@ixn_7_m1) ( And.intro (@ixn_7_0) ( And.intro (@ixn_7_1) ( And.intro (@ixn_7_2) ( And.intro (@ixn_7_3) ( And.intro (@ixn_7_4) ( And.intro (@ixn_7_5) ( And.intro (@ixn_7_6) ( And.intro (@ixn_8_m2) ( And.intro (@ixn_8_m1) ( And.intro (@ixn_8_0) ( And.intro (@ixn_8_1) ( And.intro (@ixn_8_2) ( And.intro (@ixn_8_3) ( And.intro (@ixn_8_4) ( And.intro (@ixn_8_5) ( And.intro (@ixn_8_6) ( And.intro (@ixn_8_7) ( And.intro (@ixn_9_m2) ( And.intro (@ixn_9_m1) ( And.intro (@ixn_9_0) ( And.intro (@ixn_9_1) ( And.intro (@ixn_9_2) ( And.intro (@ixn_9_3) ( And.intro (@ixn_9_4) ( And.intro (@ixn_9_5) ( And.intro (@ixn_9_6) ( And.intro (@ixn_9_7) ( And.intro (@ixn_9_8) ( And.intro (@ixn_10_m2) ( And.intro (@ixn_10_m1) ( And.intro (@ixn_10_0) ( And.intro (@ixn_10_1) ( And.intro (@ixn_10_2) ( And.intro (@ixn_10_3) ( And.intro (@ixn_10_4) ( And.intro (@ixn_10_5) ( And.intro (@ixn_10_6) ( And.intro (@ixn_10_7) ( And.intro (@ixn_10_8) ( And.intro (@ixn_10_9) ( And.intro (@ixn_11_m2) ( And.intro (@ixn_11_m1) ( And.intro (@ixn_11_0) ( And.intro (@ixn_11_1) ( And.intro (@ixn_11_2) ( And.intro (@ixn_11_3) ( And.intro (@ixn_11_4) ( And.intro (@ixn_11_5) ( And.intro (@ixn_11_6) ( And.intro (@ixn_11_7) ( And.intro (@ixn_11_8) ( And.intro (@ixn_11_9) ( And.intro (@ixn_11_10) ( And.intro (@ixn_12_m2) ( And.intro (@ixn_12_m1) ( And.intro (@ixn_12_0) ( And.intro (@ixn_12_1) ( And.intro (@ixn_12_2) ( And.intro (@ixn_12_3) ( And.intro (@ixn_12_4) ( And.intro (@ixn_12_5) ( And.intro (@ixn_12_6) ( And.intro (@ixn_12_7) ( And.intro (@ixn_12_8) ( And.intro (@ixn_12_9) ( And.intro (@ixn_12_10) ( And.intro (@ixn_12_11) ( And.intro (@ixn_13_m2) ( And.intro (@ixn_13_m1) ( And.intro (@ixn_13_0) ( And.intro (@ixn_13_1) ( And.intro (@ixn_13_2) ( And.intro (@ixn_13_3) ( And.intro (@ixn_13_4) ( And.intro (@ixn_13_5) ( And.intro (@ixn_13_6) ( And.intro (@ixn_13_7) ( And.intro (@ixn_13_8) ( And.intro (@ixn_13_9) ( And.intro (@ixn_13_10) ( And.intro (@ixn_13_11) ( And.intro (@ixn_13_12) ( And.intro (@runK_r) ( And.intro (@runK_n) (@runK_x))))))))))))))))))))))))))))))))))))))))))))))))))))))))))))))))))))))))))))))))))))))))))))))))))))))))))))))))))))))))))))))))))))))))))))))))))))))))))))))))))))))))))))))))))))))))))))))))))))))))))))))))))))))))))))))))))))))))))))))))))))))))))))))))))))))))))))))))))))))))))))))))))))))))))))))))))))))))))))))))))))))))))))))))))))))))))))))))))))))))))))))))))))))))))))))))))))))))))))))))))))))))))))))))))))))))))))))))))))))))))))))))))))))))))))))))))))))))))))))))))))))))))))))))))))))))))))))))))))))))))))))))))))))))))))))))))))))))))))))))))))))))))))))))))))))))))))))))))))))))))))))))))))))))))))))))))))))))))))))))))))))))))))))))))))))
end Vm
end
section
set_option Elab.async false
set_option linter.all false
set_option maxRecDepth 100000
namespace Vm
open PySem L2 PySem.W
section
variable {g : U → Env → Option Env} {body : Env → Res Fl} {ς ς' : Env} {us : List U} {u : U}
/-! ### loops -/
def stepO (body : Env → Res Fl) : Option Env → Res Fl
  | some ς1 => body ς1
  | none => .stuck
def stepR : Res Fl → Res Fl
  | .ok .cont ς => .ok .next ς
  | r => r
def stepF (g : U → Env → Option Env) (body : Env → Res Fl) (u : U) (ς : Env) : Res Fl := stepR (stepO body (g u ς))
theorem stepO_ : stepO body (some ς) = body ς := rfl
theorem stepR_n : stepR (.ok .next ς) = .ok .next ς := rfl
theorem stepR_c : stepR (.ok .cont ς) = .ok .next ς := rfl
theorem stepF_ : stepF g body u ς = stepR (stepO body (g u ς)) := rfl
theorem loopF_step {us : List U} (h : stepF g body u ς = .ok .next ς') : loopF g body (u :: us) ς = loopF g body us ς' := by
  unfold stepF at h
  rw [loopF]
  cases hg : g u ς with
  | none => rw [hg] at h; cases h
  | some ς1 =>
    rw [hg] at h
    simp only [stepO] at h
    simp only []
    cases hb : body ς1 with
    | ok a ς2 =>
      rw [hb] at h
      cases a with
      | next => cases h; rfl
      | cont => cases h; rfl
      | brk => cases h
      | ret v => cases h
    | exc x ς2 => rw [hb] at h; cases h
    | stuck => rw [hb] at h; cases h
theorem loopF_idx (I : Nat → Env → Prop) : ∀ (us : List U) (k : Nat) (ς : Env), I k ς → (∀ i (h : i < us.length) ς, I (k + i) ς → ∃ ς2, stepF g body us[i] ς = .ok .next ς2 ∧ I (k + i + 1) ς2) →
    ∃ ς', loopF g body us ς = .ok .next ς' ∧ I (k + us.length) ς'
  | [], k, ς, h0, _ => ⟨ς, rfl, h0⟩
  | u :: us, k, ς, h0, hs => by
    obtain ⟨ς2, e, h2⟩ := hs 0 (by simp) ς h0
    obtain ⟨ς', e', h'⟩ := loopF_idx I us (k + 1) ς2 h2 (fun i hi ς3 h3 => by
      have := hs (i + 1) (by simpa using hi) ς3 (by rw [show k + (i + 1) = k + 1 + i by omega]; exact h3)
      rw [show k + (i + 1) + 1 = k + 1 + i + 1 by omega] at this
      exact this)
    refine ⟨ς', ?_, by rw [show k + (u :: us).length = k + 1 + us.length by simp only [List.length_cons]; omega]; exact h'⟩
    rw [loopF_step (show stepF g body u ς = .ok .next ς2 from e)]
    exact e'
theorem rngU_len (lo : Int) (n : Nat) : (rngU lo n).length = n := by simp [rngU]
theorem rngU_get (lo : Int) (n i : Nat) (h : i < (rngU lo n).length) : (rngU lo n)[i] = .d (.int (lo + (i : Nat))) := by simp [rngU]
theorem loopF_rng (lo : Int) (n : Nat) (I : Nat → Env → Prop) (h0 : I 0 ς) (hs : ∀ i, i < n → ∀ ς, I i ς → ∃ ς2, stepF g body (.d (.int (lo + (i : Nat)))) ς = .ok .next ς2 ∧ I (i + 1) ς2) :
    ∃ ς', loopF g body (rngU lo n) ς = .ok .next ς' ∧ I n ς' := by
  obtain ⟨ς', e, h⟩ := loopF_idx (g := g) (body := body) I (rngU lo n) 0 ς h0 (fun i hi ς3 h3 => by
    rw [rngU_get]
    rw [rngU_len] at hi
    rw [Nat.zero_add] at h3 ⊢
    exact hs i hi ς3 h3)
  refine ⟨ς', e, ?_⟩
  rw [Nat.zero_add, rngU_len] at h
  exact h
theorem loopF_nat (n : Nat) (I : Nat → Env → Prop) (h0 : I 0 ς) (hs : ∀ i, i < n → ∀ ς, I i ς → ∃ ς2, stepF g body (.d (.int (i : Nat))) ς = .ok .next ς2 ∧ I (i + 1) ς2) :
    ∃ ς', loopF g body (rngU 0 n) ς = .ok .next ς' ∧ I n ς' :=
  loopF_rng 0 n I h0 fun i hi ς h => by
    have := hs i hi ς h
    rw [Int.zero_add]
    exact this
theorem loopF_map {α : Type} (xs : List α) (e : α → U) (I : List α → Env → Prop) (h0 : I [] ς) (hs : ∀ pre x post, xs = pre ++ x :: post → ∀ ς, I pre ς → ∃ ς2, stepF g body (e x) ς = .ok .next ς2 ∧ I (pre ++ [x]) ς2) :
    ∃ ς', loopF g body (xs.map e) ς = .ok .next ς' ∧ I xs ς' := by
  obtain ⟨ς', e', h⟩ := loopF_idx (g := g) (body := body) (fun k => I (xs.take k)) (xs.map e) 0 ς (by simpa using h0) (fun i hi ς3 h3 => by
    have hi' : i < xs.length := by simpa using hi
    rw [Nat.zero_add] at h3 ⊢
    have e1 : xs = xs.take i ++ xs[i] :: xs.drop (i + 1) := (show xs.take i ++ xs[i] :: xs.drop (i + 1) = xs by rw [← List.drop_eq_getElem_cons hi', List.take_append_drop]).symm
    obtain ⟨ς2, a, b⟩ := hs (xs.take i) xs[i] (xs.drop (i + 1)) e1 ς3 h3
    refine ⟨ς2, ?_, ?_⟩
    · rw [List.getElem_map]; exact a
    · have e2 : xs.take (i + 1) = xs.take i ++ [xs[i]] := by simp
      rw [e2]; exact b)
  refine ⟨ς', e', ?_⟩
  simpa using h
/-! ### comprehensions -/
variable {vs : List Nat} {tt : Env → Res Bool} {te : Env → Res Rv}
def stC4 (vs : List Nat) : Option (U × Env) → Res (Option U)
  | some (w, ς4) => .ok (some w) (wipeE ς4 vs)
  | none => .stuck
def stC3 (vs : List Nat) (r : Rv) (ς3 : Env) : Res (Option U) := stC4 vs (r.share ς3)
def stC2 (vs : List Nat) (te : Env → Res Rv) (b : Bool) (ς2 : Env) : Res (Option U) := match b with
  | true => (te ς2).bind (stC3 vs)
  | false => .ok none (wipeE ς2 vs)
def stC1 (vs : List Nat) (tt : Env → Res Bool) (te : Env → Res Rv) : Option Env → Res (Option U)
  | some ς1 => (tt ς1).bind (stC2 vs te)
  | none => .stuck
def stepC (vs : List Nat) (g : U → Env → Option Env) (tt : Env → Res Bool) (te : Env → Res Rv) (u : U) (ς : Env) : Res (Option U) := stC1 vs tt te (g u ς)
theorem stepC_ : stepC vs g tt te u ς = stC1 vs tt te (g u ς) := rfl
theorem stC1_ : stC1 vs tt te (some ς) = (tt ς).bind (stC2 vs te) := rfl
theorem stC2_t : stC2 vs te true ς = (te ς).bind (stC3 vs) := rfl
theorem stC2_f : stC2 vs te false ς = .ok none (wipeE ς vs) := rfl
theorem stC3_ {r : Rv} : stC3 vs r ς = stC4 vs (r.share ς) := rfl
theorem stC4_ : stC4 vs (some (u, ς)) = .ok (some u) (wipeE ς vs) := rfl
theorem wipe_n : wipeE ς [] = ς := rfl
theorem wipe_c {v : Nat} : wipeE ς (v :: vs) = (wipeE ς vs).set v none := rfl
def rsK (v : Nat) (ς' : Env) : Option (Option U) → Env
  | some (some u) => ς'.set v (some u)
  | _ => ς'
theorem rest_n : restE ς [] ς' = ς' := rfl
theorem rest_c {v : Nat} : restE ς (v :: vs) ς' = restE ς vs (rsK v ς' (wipeE ς vs)[v]?) := rfl
theorem rsK_s {v : Nat} : rsK v ς' (some (some u)) = ς'.set v (some u) := rfl
theorem rsK_n {v : Nat} : rsK v ς' (some none) = ς' := rfl
theorem loopC_step {us acc : List U} {o : Option U} (h : stepC vs g tt te u ς = .ok o ς') : loopC vs g tt te (u :: us) acc ς = loopC vs g tt te us (acc ++ o.toList) ς' := by
  unfold stepC stC1 at h
  rw [loopC]
  cases hg : g u ς with
  | none => rw [hg] at h; cases h
  | some ς1 =>
    rw [hg] at h
    simp only [] at h ⊢
    cases ht : tt ς1 with
    | exc x ς2 => rw [ht] at h; cases h
    | stuck => rw [ht] at h; cases h
    | ok b ς2 =>
      rw [ht] at h
      cases b with
      | false =>
        have h : Res.ok none (wipeE ς2 vs) = Res.ok o ς' := h
        cases h
        simp
      | true =>
        have h : (te ς2).bind (stC3 vs) = .ok o ς' := h
        cases he : te ς2 with
        | exc x ς3 => rw [he] at h; cases h
        | stuck => rw [he] at h; cases h
        | ok r ς3 =>
          rw [he] at h
          have h : stC4 vs (r.share ς3) = .ok o ς' := h
          simp only [he]
          cases hr : r.share ς3 with
          | none => rw [hr] at h; cases h
          | some p =>
            obtain ⟨w, ς4⟩ := p
            rw [hr] at h
            have h : Res.ok (some w) (wipeE ς4 vs) = Res.ok o ς' := h
            cases h
            rfl
theorem loopC_all {α : Type} (e : α → U) (f : α → Option U) : ∀ (xs : List α) (acc : List U), (∀ x ∈ xs, stepC vs g tt te (e x) ς = .ok (f x) ς) → loopC vs g tt te (xs.map e) acc ς = .ok (acc ++ xs.filterMap f) ς
  | [], acc, _ => by simp [loopC]
  | x :: xs, acc, h => by
    rw [List.map_cons, loopC_step (h x (List.mem_cons_self ..)), loopC_all e f xs _ fun y hy => h y (List.mem_cons_of_mem _ hy)]
    congr 1
    cases hf : f x <;> simp [hf]
theorem loopC_map {α : Type} (e : α → U) (f : α → Option U) (xs : List α) (h : ∀ x ∈ xs, stepC vs g tt te (e x) ς = .ok (f x) ς) : loopC vs g tt te (xs.map e) [] ς = .ok (xs.filterMap f) ς := by
  rw [loopC_all e f xs [] h]; rfl
theorem loopC_rng (f : Nat → Option U) (lo : Int) (n : Nat) (h : ∀ i, i < n → stepC vs g tt te (.d (.int (lo + (i : Nat)))) ς = .ok (f i) ς) : loopC vs g tt te (rngU lo n) [] ς = .ok ((List.range n).filterMap f) ς :=
  loopC_map (fun i : Nat => .d (.int (lo + (i : Nat)))) f (List.range n) fun i hi => h i (List.mem_range.mp hi)
theorem loopC_nat (f : Nat → Option U) (n : Nat) (h : ∀ i, i < n → stepC vs g tt te (.d (.int (i : Nat))) ς = .ok (f i) ς) : loopC vs g tt te (rngU 0 n) [] ς = .ok ((List.range n).filterMap f) ς :=
  loopC_rng f 0 n fun i hi => by rw [Int.zero_add]; exact h i hi
theorem loopC_idx (I : Nat → List U → Env → Prop) : ∀ (us : List U) (k : Nat) (acc : List U) (ς : Env), I k acc ς → (∀ i (h : i < us.length) acc ς, I (k + i) acc ς → ∃ o ς2, stepC vs g tt te us[i] ς = .ok o ς2 ∧ I (k + i + 1) (acc ++ o.toList) ς2) →
    ∃ acc' ς', loopC vs g tt te us acc ς = .ok acc' ς' ∧ I (k + us.length) acc' ς'
  | [], k, acc, ς, h0, _ => ⟨acc, ς, rfl, h0⟩
  | u :: us, k, acc, ς, h0, hs => by
    obtain ⟨o, ς2, e, h2⟩ := hs 0 (by simp) acc ς h0
    obtain ⟨acc', ς', e', h'⟩ := loopC_idx I us (k + 1) (acc ++ o.toList) ς2 h2 (fun i hi acc3 ς3 h3 => by
      have := hs (i + 1) (by simpa using hi) acc3 ς3 (by rw [show k + (i + 1) = k + 1 + i by omega]; exact h3)
      rw [show k + (i + 1) + 1 = k + 1 + i + 1 by omega] at this
      exact this)
    refine ⟨acc', ς', ?_, by rw [show k + (u :: us).length = k + 1 + us.length by simp only [List.length_cons]; omega]; exact h'⟩
    rw [loopC_step (show stepC vs g tt te u ς = .ok o ς2 from e)]
    exact e'
end
end Vm
end
section
set_option autoImplicit false
set_option Elab.async false
set_option linter.all false
set_option maxRecDepth 100000
namespace Vm
open PySem L2 PySem.W PySem.SeqAt
section
theorem ckB_0_0 {φ : Phi} {r0 : Rv} {ς : Env} : ckB φ [0] [] [r0] ς = kCall φ [] [r0] ς := rfl
theorem ckB_0_1 {φ : Phi} {r0 : Rv} {ς : Env} : ckB φ [0] [r0] [] ς = kCall φ [] [r0] ς := rfl
theorem ckB_01_0 {φ : Phi} {r0 r1 : Rv} {ς : Env} : ckB φ [0, 1] [] [r0, r1] ς = kCall φ [] [r0, r1] ς := rfl
theorem ckB_01_1 {φ : Phi} {r0 r1 : Rv} {ς : Env} : ckB φ [0, 1] [r0] [r1] ς = kCall φ [] [r0, r1] ς := rfl
theorem ckB_01_2 {φ : Phi} {r0 r1 : Rv} {ς : Env} : ckB φ [0, 1] [r0, r1] [] ς = kCall φ [] [r0, r1] ς := rfl
theorem ckB_10_0 {φ : Phi} {r0 r1 : Rv} {ς : Env} : ckB φ [1, 0] [] [r0, r1] ς = kCall φ [] [r1, r0] ς := rfl
theorem ckB_10_1 {φ : Phi} {r0 r1 : Rv} {ς : Env} : ckB φ [1, 0] [r0] [r1] ς = kCall φ [] [r1, r0] ς := rfl
theorem ckB_10_2 {φ : Phi} {r0 r1 : Rv} {ς : Env} : ckB φ [1, 0] [r0, r1] [] ς = kCall φ [] [r1, r0] ς := rfl
theorem ckB_012_0 {φ : Phi} {r0 r1 r2 : Rv} {ς : Env} : ckB φ [0, 1, 2] [] [r0, r1, r2] ς = kCall φ [] [r0, r1, r2] ς := rfl
theorem ckB_012_1 {φ : Phi} {r0 r1 r2 : Rv} {ς : Env} : ckB φ [0, 1, 2] [r0] [r1, r2] ς = kCall φ [] [r0, r1, r2] ς := rfl
theorem ckB_012_2 {φ : Phi} {r0 r1 r2 : Rv} {ς : Env} : ckB φ [0, 1, 2] [r0, r1] [r2] ς = kCall φ [] [r0, r1, r2] ς := rfl
theorem ckB_012_3 {φ : Phi} {r0 r1 r2 : Rv} {ς : Env} : ckB φ [0, 1, 2] [r0, r1, r2] [] ς = kCall φ [] [r0, r1, r2] ς := rfl
theorem ckB_021_0 {φ : Phi} {r0 r1 r2 : Rv} {ς : Env} : ckB φ [0, 2, 1] [] [r0, r1, r2] ς = kCall φ [] [r0, r2, r1] ς := rfl
theorem ckB_021_1 {φ : Phi} {r0 r1 r2 : Rv} {ς : Env} : ckB φ [0, 2, 1] [r0] [r1, r2] ς = kCall φ [] [r0, r2, r1] ς := rfl
theorem ckB_021_2 {φ : Phi} {r0 r1 r2 : Rv} {ς : Env} : ckB φ [0, 2, 1] [r0, r1] [r2] ς = kCall φ [] [r0, r2, r1] ς := rfl
theorem ckB_021_3 {φ : Phi} {r0 r1 r2 : Rv} {ς : Env} : ckB φ [0, 2, 1] [r0, r1, r2] [] ς = kCall φ [] [r0, r2, r1] ς := rfl
theorem ckB_102_0 {φ : Phi} {r0 r1 r2 : Rv} {ς : Env} : ckB φ [1, 0, 2] [] [r0, r1, r2] ς = kCall φ [] [r1, r0, r2] ς := rfl
theorem ckB_102_1 {φ : Phi} {r0 r1 r2 : Rv} {ς : Env} : ckB φ [1, 0, 2] [r0] [r1, r2] ς = kCall φ [] [r1, r0, r2] ς := rfl
theorem ckB_102_2 {φ : Phi} {r0 r1 r2 : Rv} {ς : Env} : ckB φ [1, 0, 2] [r0, r1] [r2] ς = kCall φ [] [r1, r0, r2] ς := rfl
theorem ckB_102_3 {φ : Phi} {r0 r1 r2 : Rv} {ς : Env} : ckB φ [1, 0, 2] [r0, r1, r2] [] ς = kCall φ [] [r1, r0, r2] ς := rfl
theorem ckB_120_0 {φ : Phi} {r0 r1 r2 : Rv} {ς : Env} : ckB φ [1, 2, 0] [] [r0, r1, r2] ς = kCall φ [] [r1, r2, r0] ς := rfl
theorem ckB_120_1 {φ : Phi} {r0 r1 r2 : Rv} {ς : Env} : ckB φ [1, 2, 0] [r0] [r1, r2] ς = kCall φ [] [r1, r2, r0] ς := rfl
theorem ckB_120_2 {φ : Phi} {r0 r1 r2 : Rv} {ς : Env} : ckB φ [1, 2, 0] [r0, r1] [r2] ς = kCall φ [] [r1, r2, r0] ς := rfl
theorem ckB_120_3 {φ : Phi} {r0 r1 r2 : Rv} {ς : Env} : ckB φ [1, 2, 0] [r0, r1, r2] [] ς = kCall φ [] [r1, r2, r0] ς := rfl
theorem ckB_201_0 {φ : Phi} {r0 r1 r2 : Rv} {ς : Env} : ckB φ [2, 0, 1] [] [r0, r1, r2] ς = kCall φ [] [r2, r0, r1] ς := rfl
theorem ckB_201_1 {φ : Phi} {r0 r1 r2 : Rv} {ς : Env} : ckB φ [2, 0, 1] [r0] [r1, r2] ς = kCall φ [] [r2, r0, r1] ς := rfl
theorem ckB_201_2 {φ : Phi} {r0 r1 r2 : Rv} {ς : Env} : ckB φ [2, 0, 1] [r0, r1] [r2] ς = kCall φ [] [r2, r0, r1] ς := rfl
theorem ckB_201_3 {φ : Phi} {r0 r1 r2 : Rv} {ς : Env} : ckB φ [2, 0, 1] [r0, r1, r2] [] ς = kCall φ [] [r2, r0, r1] ς := rfl
theorem ckB_210_0 {φ : Phi} {r0 r1 r2 : Rv} {ς : Env} : ckB φ [2, 1, 0] [] [r0, r1, r2] ς = kCall φ [] [r2, r1, r0] ς := rfl
theorem ckB_210_1 {φ : Phi} {r0 r1 r2 : Rv} {ς : Env} : ckB φ [2, 1, 0] [r0] [r1, r2] ς = kCall φ [] [r2, r1, r0] ς := rfl
theorem ckB_210_2 {φ : Phi} {r0 r1 r2 : Rv} {ς : Env} : ckB φ [2, 1, 0] [r0, r1] [r2] ς = kCall φ [] [r2, r1, r0] ς := rfl
theorem ckB_210_3 {φ : Phi} {r0 r1 r2 : Rv} {ς : Env} : ckB φ [2, 1, 0] [r0, r1, r2] [] ς = kCall φ [] [r2, r1, r0] ς := rfl

variable {ς ς1 ς2 : Env} {ms : Env → Res (List Rv)} {mo mb : Env → Res Rv} {r : Rv} {rs : List Rv} {cnt t : Bool} {x y z : PyData} {xs ys : List PyData} {us ws vs : List U} {u v w : U} {i j k : Nat} {a b c d : Int} {mk : MK} {mp : Env → Res (Nat × List Nat)}
theorem ev_repr : kRepr rs ς = d1K fRepr (peeks ς rs) ς := ev_k1 (h := fRepr)
def rplK (ς : Env) : Option (List PyData) → Res Rv
  | some ds => if ds.length ≤ 1000 then scK (fRepr (.list ds)) ς else .stuck
  | none => .stuck
theorem ev_reprL : kReprL rs ς = rplK ς (peeks ς rs) := by
  unfold kReprL rplK scK
  cases peeks ς rs with
  | none => rfl
  | some ds =>
    show (if ds.length ≤ 1000 then _ else _) = (if ds.length ≤ 1000 then _ else _)
    by_cases h : ds.length ≤ 1000
    · simp only [if_pos h]
      all_goals (cases fRepr (.list ds) <;> rfl)
    · simp only [if_neg h]
theorem rplK_0 : rplK ς (some []) = scK (fRepr (.list [])) ς := rfl
theorem rplK_1 {y0 : PyData} : rplK ς (some [y0]) = scK (fRepr (.list [y0])) ς := rfl
theorem rplK_2 {y0 y1 : PyData} : rplK ς (some [y0, y1]) = scK (fRepr (.list [y0, y1])) ς := rfl
theorem rplK_3 {y0 y1 y2 : PyData} : rplK ς (some [y0, y1, y2]) = scK (fRepr (.list [y0, y1, y2])) ς := rfl
theorem rplK_4 {y0 y1 y2 y3 : PyData} : rplK ς (some [y0, y1, y2, y3]) = scK (fRepr (.list [y0, y1, y2, y3])) ς := rfl
theorem rplK_5 {y0 y1 y2 y3 y4 : PyData} : rplK ς (some [y0, y1, y2, y3, y4]) = scK (fRepr (.list [y0, y1, y2, y3, y4])) ς := rfl
theorem rplK_6 {y0 y1 y2 y3 y4 y5 : PyData} : rplK ς (some [y0, y1, y2, y3, y4, y5]) = scK (fRepr (.list [y0, y1, y2, y3, y4, y5])) ς := rfl
theorem rplK_7 {y0 y1 y2 y3 y4 y5 y6 : PyData} : rplK ς (some [y0, y1, y2, y3, y4, y5, y6]) = scK (fRepr (.list [y0, y1, y2, y3, y4, y5, y6])) ς := rfl
theorem rplK_8 {y0 y1 y2 y3 y4 y5 y6 y7 : PyData} : rplK ς (some [y0, y1, y2, y3, y4, y5, y6, y7]) = scK (fRepr (.list [y0, y1, y2, y3, y4, y5, y6, y7])) ς := rfl

/-! index, count -/
def tyK : Option U → Option Bool
  | some (.own _) => some false
  | some (.d (.list _)) => some false
  | some (.d (.tuple _)) => some true
  | _ => none
theorem ev_tyR : tyR r ς = tyK (r.peek ς) := rfl
theorem tyK_o : tyK (some (.own us)) = some false := rfl
theorem tyK_l : tyK (some (.d (.list xs))) = some false := rfl
theorem tyK_t : tyK (some (.d (.tuple xs))) = some true := rfl
def fdC (cnt t : Bool) (r : Rv) (rs : List Rv) (ς : Env) : Res Rv := kFind cnt t r rs ς
def fdB (cnt : Bool) (ms : Env → Res (List Rv)) (r : Rv) (ς : Env) : Option Bool → Res Rv
  | some t => (ms ς).bind (fdC cnt t r)
  | none => .stuck
def fdA (cnt : Bool) (ms : Env → Res (List Rv)) (r : Rv) (ς : Env) : Res Rv := fdB cnt ms r ς (tyR r ς)
theorem ev_find : mFind cnt mo ms ς = (mo ς).bind (fdA cnt ms) := by
  unfold mFind
  refine bind_congr _ fun r ς1 => ?_
  unfold fdA fdB
  cases tyR r ς1 <;> rfl
theorem fdA_ : fdA cnt ms r ς = fdB cnt ms r ς (tyR r ς) := rfl
theorem fdB_ : fdB cnt ms r ς (some t) = (ms ς).bind (fdC cnt t r) := rfl
def fdE (cnt t : Bool) (ς : Env) : Option U → Option (List PyData) → Res Rv
  | some u, some [d] => match u.toD with
    | some x => match seqOf x with
      | some (t', xs) => if t' = t ∧ lev 8 d = true then
          if cnt then .ok (.tm (.d (.int ((xs.countP fun z => PyData.eqv z d : Nat) : Int)))) ς else match SeqAt.dataPlace xs d with
            | some j => .ok (.tm (.d (.int (j : Nat)))) ς
            | none => .stuck
        else .stuck
      | none => .stuck
    | none => .stuck
  | _, _ => .stuck
theorem fdC_ : fdC cnt t r rs ς = fdE cnt t ς (r.peek ς) (peeks ς rs) := by
  unfold fdC kFind fdE
  cases r.peek ς with
  | none => rfl
  | some u =>
    cases peeks ς rs with
    | none => rfl
    | some l =>
      match l with
      | [] => rfl
      | [d] => rfl
      | _ :: _ :: _ => rfl
theorem fdE_it (h : lev 8 x = true) (h2 : SeqAt.dataPlace xs x = some j) : fdE false true ς (some (.d (.tuple xs))) (some [x]) = .ok (.tm (.d (.int (j : Nat)))) ς := by
  unfold fdE
  simp only [U.toD, seqOf, h, h2]
  rfl
theorem fdE_il (h : lev 8 x = true) (h2 : SeqAt.dataPlace xs x = some j) : fdE false false ς (some (.d (.list xs))) (some [x]) = .ok (.tm (.d (.int (j : Nat)))) ς := by
  unfold fdE
  simp only [U.toD, seqOf, h, h2]
  rfl
theorem fdE_ct (h : lev 8 x = true) : fdE true true ς (some (.d (.tuple xs))) (some [x]) = .ok (.tm (.d (.int ((xs.countP fun z => PyData.eqv z x : Nat) : Int)))) ς := by
  unfold fdE
  simp only [U.toD, seqOf, h]
  rfl
theorem fdE_cl (h : lev 8 x = true) : fdE true false ς (some (.d (.list xs))) (some [x]) = .ok (.tm (.d (.int ((xs.countP fun z => PyData.eqv z x : Nat) : Int)))) ς := by
  unfold fdE
  simp only [U.toD, seqOf, h]
  rfl
/-! methods at an item -/
def pnK (i : Nat) (ς : Env) : Option (Option U) → Res (Nat × List Nat)
  | some (some _) => .ok (i, []) ς
  | _ => .stuck
theorem ev_pN : pN i ς = pnK i ς ς[i]? := rfl
theorem pnK_ : pnK i ς (some (some u)) = .ok (i, []) ς := rfl
def pi2 (p : Nat × List Nat) (rb : Rv) (ς : Env) : Res (Nat × List Nat) := if p.2 = [] then kPI p.1 p.2 rb ς else .stuck
def pi1 (mb : Env → Res Rv) (p : Nat × List Nat) (ς : Env) : Res (Nat × List Nat) := (mb ς).bind (pi2 p)
theorem ev_pI : pI mp mb ς = (mp ς).bind (pi1 mb) := by
  unfold pI
  refine bind_congr _ fun p ς1 => ?_
  unfold pi1 pi2
  cases mb ς1 <;> rfl
theorem pi1_ {p : Nat × List Nat} : pi1 mb p ς = (mb ς).bind (pi2 p) := rfl
def pi5 (i : Nat) (ς : Env) : Option Nat → Res (Nat × List Nat)
  | some j => .ok (i, [j]) ς
  | none => .stuck
def pi4 (i : Nat) (k : Int) (ς : Env) : Option (Option U) → Res (Nat × List Nat)
  | some (some (.own us)) => pi5 i ς (ixN us.length k)
  | _ => .stuck
def pi3 (i : Nat) (ς : Env) : Option PyData → Res (Nat × List Nat)
  | some (.int k) => pi4 i k ς ς[i]?
  | _ => .stuck
theorem pi2_ : pi2 (i, []) r ς = pi3 i ς (pk1 some r ς) := by
  show kPI i [] r ς = _
  unfold kPI pi3
  show (match pk1 some r ς with | some (.int k) => _ | _ => _) = _
  cases pk1 some r ς with
  | none => rfl
  | some x =>
    cases x with
    | int k =>
      unfold getP pi4
      cases ς[i]? with
      | none => rfl
      | some o =>
        cases o with
        | none => rfl
        | some u => cases u <;> rfl
    | _ => rfl
theorem pi3_ : pi3 i ς (some (.int a)) = pi4 i a ς ς[i]? := rfl
theorem pi4_ : pi4 i a ς (some (some (.own us))) = pi5 i ς (ixN us.length a) := rfl
theorem pi5_ : pi5 i ς (some j) = .ok (i, [j]) ς := rfl
def nm6 (i j : Nat) (us : List U) (ς : Env) : Option (U × U) → Res Rv
  | some (c, w') => .ok (.tm c) (ς.set i (some (.own (us.set j w'))))
  | none => .stuck
def nm5 (mk : MK) (i j : Nat) (us : List U) (vs : List U) (ς : Env) : Option (Option U) → Res Rv
  | some none => kMut i [j] mk vs (ς.set i (some (.own us)))
  | _ => .stuck
def nm4 (mk : MK) (i j : Nat) (us : List U) : Option (List U × Env) → Res Rv
  | some (vs, ς3) => nm5 mk i j us vs ς3 ς3[i]?
  | none => .stuck
def nm3 (mk : MK) (i j : Nat) (us : List U) : Res (List Rv) → Res Rv
  | .ok rs ς2 => nm4 mk i j us (shares rs ς2)
  | _ => .stuck
def nmO (mk : MK) (ms : Env → Res (List Rv)) (i j : Nat) (us : List U) (ς : Env) : Option U → Res Rv
  | some (.own _) => nm3 mk i j us (ms (ς.set i none))
  | _ => .stuck
def nm2 (mk : MK) (ms : Env → Res (List Rv)) (i j : Nat) (ς : Env) : Option (Option U) → Res Rv
  | some (some (.own us)) => nmO mk ms i j us ς us[j]?
  | _ => .stuck
def nm1 (mk : MK) (ms : Env → Res (List Rv)) (p : Nat × List Nat) (ς1 : Env) : Res Rv :=
  if isOwn (getP ς1 p.1 p.2) then
    if p.2 = [] then (ms ς1).bind fun rs ς2 => match shares rs ς2 with
      | some (us, ς3) => kMut p.1 [] mk us ς3
      | none => .stuck
    else match ς1[p.1]? with
      | some (some u) => match ms (ς1.set p.1 none) with
        | .ok rs ς2 => match shares rs ς2 with
          | some (us, ς3) => if isNo ς3[p.1]? then kMut p.1 p.2 mk us (ς3.set p.1 (some u)) else .stuck
          | none => .stuck
        | _ => .stuck
      | _ => .stuck
  else .stuck
theorem ev_mutI : mMut mk (pI mp mb) ms ς = (pI mp mb ς).bind (nm1 mk ms) := rfl
theorem nm1_ : nm1 mk ms (i, [j]) ς = nm2 mk ms i j ς ς[i]? := by
  unfold nm1 nm2 getP
  cases h : ς[i]? with
  | none => rfl
  | some o =>
    cases o with
    | none => rfl
    | some u =>
      cases u with
      | own us =>
        simp only [U.gt, nmO]
        cases us[j]? with
        | none => rfl
        | some w =>
          cases w with
          | own ws =>
            simp only [isOwn, if_true, nm3]
            cases ms (ς.set i none) with
            | ok rs ς2 =>
              simp only [nm4]
              cases shares rs ς2 with
              | none => rfl
              | some p =>
                obtain ⟨vs, ς3⟩ := p
                simp only [nm5]
                cases ς3[i]? with
                | none => rfl
                | some o => cases o <;> rfl
            | _ => rfl
          | _ => rfl
      | _ => rfl
theorem nm2_ : nm2 mk ms i j ς (some (some (.own us))) = nmO mk ms i j us ς us[j]? := rfl
theorem nmO_ : nmO mk ms i j us ς (some (.own ws)) = nm3 mk i j us (ms (ς.set i none)) := rfl
theorem nm3_ : nm3 mk i j us (.ok rs ς) = nm4 mk i j us (shares rs ς) := rfl
theorem nm4_ : nm4 mk i j us (some (vs, ς)) = nm5 mk i j us vs ς ς[i]? := rfl
theorem nm5_ : nm5 mk i j us vs ς (some none) = kMut i [j] mk vs (ς.set i (some (.own us))) := rfl
def km1 (mk : MK) (i j : Nat) (vs us : List U) (ς : Env) : Option U → Res Rv
  | some w => nm6 i j us ς (mk w vs)
  | none => .stuck
def km0 (mk : MK) (i j : Nat) (vs : List U) (ς : Env) : Option (Option U) → Res Rv
  | some (some (.own us)) => km1 mk i j vs us ς us[j]?
  | _ => .stuck
theorem ev_kMutI : kMut i [j] mk vs ς = km0 mk i j vs ς ς[i]? := by
  unfold kMut km0 getP setP
  cases h : ς[i]? with
  | none => rfl
  | some o =>
    cases o with
    | none => rfl
    | some u =>
      cases u with
      | own us =>
        simp only [U.gt, km1]
        cases hj : us[j]? with
        | none => rfl
        | some w =>
          simp only []
          cases mk w vs with
          | none => rfl
          | some p =>
            simp only [U.pt, hj]
            rfl
      | _ => rfl
theorem km0_ : km0 mk i j vs ς (some (some (.own us))) = km1 mk i j vs us ς us[j]? := rfl
theorem km1_ : km1 mk i j vs us ς (some w) = nm6 i j us ς (mk w vs) := rfl
theorem nm6_ : nm6 i j us ς (some (v, w)) = .ok (.tm v) (ς.set i (some (.own (us.set j w)))) := rfl
/-! ### data -/
theorem lev_int (n : Nat) : lev n (.int a) = true := by cases n <;> rfl
theorem lev_bool (n : Nat) (q : Bool) : lev n (.bool q) = true := by cases n <;> rfl
theorem lev_str (n : Nat) (q : Str) : lev n (.str q) = true := by cases n <;> rfl
theorem lev_tup (n : Nat) : lev (n + 1) (.tuple xs) = xs.all (lev n) := rfl
theorem lev_lst (n : Nat) : lev (n + 1) (.list xs) = xs.all (lev n) := rfl
theorem fEq_self (h : lev 8 x = true) (p : x.plain = true) : fEq x x = some (.bool true) := by
  unfold fEq
  rw [if_pos h, SeqAt.eqv_refl_plain x p]
theorem fNe_self (h : lev 8 x = true) (p : x.plain = true) : fNe x x = some (.bool false) := by
  unfold fNe
  rw [if_pos h, SeqAt.eqv_refl_plain x p]
  rfl
theorem fNe_str (q : Str) : fNe (.str q) (.str q) = some (.bool false) := fNe_self (lev_str 8 q) rfl
theorem fEq_str (q : Str) : fEq (.str q) (.str q) = some (.bool true) := fEq_self (lev_str 8 q) rfl
theorem evl : type_of% (And.intro (@ev_repr) ( And.intro (@ev_tyR) ( And.intro (@tyK_o) ( And.intro (@tyK_l) ( And.intro (@tyK_t) ( And.intro (@ev_find) ( And.intro (@fdA_) ( And.intro (@fdB_) ( And.intro (@fdC_) ( And.intro (@fdE_it) ( And.intro (@fdE_il) ( And.intro (@fdE_ct) ( And.intro (@fdE_cl) ( And.intro (@ev_pN) ( And.intro (@pnK_) ( And.intro (@ev_pI) ( And.intro (@pi1_) ( And.intro (@pi2_) ( And.intro (@pi3_) ( And.intro (@pi4_) ( And.intro (@pi5_) ( And.intro (@ev_mutI) ( And.intro (@nm1_) ( And.intro (@nm2_) ( And.intro (@nmO_) ( And.intro (@nm3_) ( And.intro (@nm4_) ( And.intro (@nm5_) ( And.intro (@ev_kMutI) ( And.intro (@km0_) ( And.intro (@km1_) ( And.intro (@nm6_) ( And.intro (@stepF_) ( And.intro (@stepO_) ( And.intro (@stepR_n) ( And.intro (@stepR_c) ( And.intro (@stepC_) ( And.intro (@stC1_) ( And.intro (@stC2_t) ( And.intro (@stC2_f) ( And.intro (@stC3_) ( And.intro (@stC4_) ( And.intro (@wipe_n) ( And.intro (@wipe_c) ( And.intro (@rest_n) ( And.intro (@rest_c) ( And.intro (@rsK_s) ( And.intro (@rsK_n) ( And.intro (@fNe_str) ( And.intro (@fEq_str) ( And.intro (@ckB_0_0) ( And.intro (@ckB_0_1) ( And.intro (@ckB_01_0) ( And.intro (@ckB_01_1) ( And.intro (@ckB_01_2) ( And.intro (@ckB_10_0) ( And.intro (@ckB_10_1) ( And.intro (@ckB_10_2) ( And.intro (@ckB_012_0) ( And.intro (@ckB_012_1) ( And.intro (@ckB_012_2) ( And.intro (@ckB_012_3) ( And.intro (@ckB_021_0) ( And.intro (@ckB_021_1) ( And.intro (@ckB_021_2) ( And.intro (@ckB_021_3) ( And.intro (@ckB_102_0) ( And.intro (@ckB_102_1) ( And.intro (@ckB_102_2) ( And.intro (@ckB_102_3) ( And.intro (@ckB_120_0) ( And.intro (@ckB_120_1) ( And.intro (@ckB_120_2) ( And.intro (@ckB_120_3) ( And.intro (@ckB_201_0) ( And.intro (@ckB_201_1) ( And.intro (@ckB_201_2) ( And.intro (@ckB_201_3) ( And.intro (@ckB_210_0) ( And.intro (@ckB_210_1) ( And.intro (@ckB_210_2) ( And.intro (@ckB_210_3) ( And.intro (@ev_reprL) ( And.intro (@rplK_0) ( And.intro (@rplK_1) ( And.intro (@rplK_2) ( And.intro (@rplK_3) ( And.intro (@rplK_4) ( And.intro (@rplK_5) ( And.intro (@rplK_6) ( And.intro (@rplK_7) (@rplK_8)))))))))))))))))))))))))))))))))))))))))))))))))))))))))))))))))))))))))))))))))))))))))))) := (And.intro (@ev_repr) ( And.intro (@ev_tyR) ( And.intro (@tyK_o) ( And.intro (@tyK_l) ( And.intro (@tyK_t) ( And.intro (@ev_find) ( And.intro (@fdA_) ( And.intro (@fdB_) ( And.intro (@fdC_) ( And.intro (@fdE_it) ( And.intro (@fdE_il) ( And.intro (@fdE_ct) ( And.intro (@fdE_cl) ( And.intro (@ev_pN) ( And.intro (@pnK_) ( And.intro (@ev_pI) ( And.intro (@pi1_) ( And.intro (@pi2_) ( And.intro (@pi3_) ( And.intro (@pi4_) ( And.intro (@pi5_) ( And.intro (@ev_mutI) ( And.intro (@nm1_) ( And.intro (@nm2_) ( And.intro (@nmO_) ( And.intro (@nm3_) ( And.intro (@nm4_) ( And.intro (@nm5_) ( And.intro (@ev_kMutI) ( And.intro (@km0_) ( And.intro (@km1_) ( And.intro (@nm6_) ( And.intro (@stepF_) ( And.intro (@stepO_) ( And.intro (@stepR_n) ( And.intro (@stepR_c) ( And.intro (@stepC_) ( And.intro (@stC1_) ( And.intro (@stC2_t) ( And.intro (@stC2_f) ( And.intro (@stC3_) ( And.intro (@stC4_) ( And.intro (@wipe_n) ( And.intro (@wipe_c) ( And.intro (@rest_n) ( And.intro (@rest_c) ( And.intro (@rsK_s) ( And.intro (@rsK_n) ( And.intro (@fNe_str) ( And.intro (@fEq_str) ( And.intro (@ckB_0_0) ( And.intro (@ckB_0_1) ( And.intro (@ckB_01_0) ( And.intro (@ckB_01_1) ( And.intro (@ckB_01_2) ( And.intro (@ckB_10_0) ( And.intro (@ckB_10_1) ( And.intro (@ckB_10_2) ( And.intro (@ckB_012_0) ( And.intro (@ckB_012_1) ( And.intro (@ckB_012_2) ( And.intro (@ckB_012_3) ( And.intro (@ckB_021_0) ( And.intro (@ckB_021_1) ( And.intro (@ckB_021_2) ( And.intro (@ckB_021_3) ( And.intro (@ckB_102_0) ( And.intro (@ckB_102_1) ( And.intro (@ckB_102_2) ( And.intro (@ckB_102_3) ( And.intro (@ckB_120_0) ( And.intro (@ckB_120_1) ( And.intro (@ckB_120_2) ( And.intro (@ckB_120_3) ( And.intro (@ckB_201_0) ( And.intro (@ckB_201_1) ( And.intro (@ckB_201_2) ( And.intro (@ckB_201_3) ( And.intro (@ckB_210_0) ( And.intro (@ckB_210_1) ( And.intro (@ckB_210_2) ( And.intro (@ckB_210_3) ( And.intro (@ev_reprL) ( And.intro (@rplK_0) ( And.intro (@rplK_1) ( And.intro (@rplK_2) ( And.intro (@rplK_3) ( And.intro (@rplK_4) ( And.intro (@rplK_5) ( And.intro (@rplK_6) ( And.intro (@rplK_7) (@rplK_8))))))))))))))))))))))))))))))))))))))))))))))))))))))))))))))))))))))))))))))))))))))))))))
section
variable {α : Type} [DecidableEq α] [DatumOrd α]
theorem fIn_tup {y : α} {zs : List α} (h : lev 8 (Datum.toD y) = true) : fIn false (Datum.toD y) (.tuple (zs.map Datum.toD)) = some (.bool (decide (y ∈ zs))) := by
  unfold fIn
  simp only [itemsOf]
  rw [if_pos h]
  simp only [any_datum]
  rfl
theorem fIn_lst {y : α} {zs : List α} (h : lev 8 (Datum.toD y) = true) : fIn false (Datum.toD y) (.list (zs.map Datum.toD)) = some (.bool (decide (y ∈ zs))) := by
  unfold fIn
  simp only [itemsOf]
  rw [if_pos h]
  simp only [any_datum]
  rfl
theorem alAll_datum (zs : List α) : alAll (zs.map Datum.toD) = true := by
  unfold alAll
  rw [List.all_eq_true]
  intro p hp
  rw [List.all_eq_true]
  intro q hq
  obtain ⟨p, _, rfl⟩ := List.mem_map.mp hp
  obtain ⟨q, _, rfl⟩ := List.mem_map.mp hq
  exact DatumOrd.alike p q
theorem sortD_datum (zs : List α) : sortD (zs.map Datum.toD) = (zs.mergeSort fun p q => !DatumOrd.lt q p).map Datum.toD := by
  unfold sortD
  exact (List.map_mergeSort fun p _ q _ => (by
    show (!DatumOrd.lt q p) = !(dataLt (Datum.toD q) (Datum.toD p))
    rw [DatumOrd.lt_eq])).symm
end
def pd (p : Int × Int) : PyData := .tuple [.int p.1, .int p.2]
theorem pd_eq : pd = Datum.toD := rfl
theorem lev_pd (p : Int × Int) : lev 8 (pd p) = true := rfl
theorem srtOk_ints (ns : List Int) : srtOk (ns.map .int) = true := by
  unfold srtOk
  rw [show alAll (ns.map .int) = true from alAll_datum ns, Bool.true_and, Bool.and_eq_true, Bool.or_eq_true]
  refine ⟨.inr ?_, ?_⟩ <;> rw [List.all_map, List.all_eq_true] <;> intro p _ <;> rfl
theorem srtOk_pairs (ns : List (Int × Int)) : srtOk (ns.map pd) = true := by
  unfold srtOk
  rw [show alAll (ns.map pd) = true from alAll_datum ns, Bool.true_and, Bool.and_eq_true, Bool.or_eq_true]
  refine ⟨.inl ?_, ?_⟩ <;> rw [List.all_map, List.all_eq_true] <;> intro p _ <;> rfl
/-! shown data of few bits -/
structure RpB (d : PyData) (b l : Nat) : Prop where
  sh : d.showable = true
  ls : d.leavesShort 200 = true
  bk : d.bulk ≤ b
  lv : lev l d = true
theorem RpB.mono {d : PyData} {b b' l : Nat} (h : RpB d b l) (hb : b ≤ b') : RpB d b' l := ⟨h.sh, h.ls, Nat.le_trans h.bk hb, h.lv⟩
theorem fRepr_ok {d : PyData} {b : Nat} (h : RpB d b 8) (hb : b ≤ 80000) : fRepr d = some (.str d.shown) := by
  have h1 := PyData.shown_le_bulk 200 (by omega) d h.ls
  have h2 := h.bk
  have h3 : d.shown.length ≤ sizeLine := by rw [sizeLine_eq]; omega
  unfold fRepr
  rw [h.sh, h.lv, decide_eq_true h3]
  rfl
theorem rpb_intW {i : Int} {l k : Nat} (h : i.natAbs < 2 ^ k) (hk : k ≤ 600) : RpB (.int i) 0 l := by
  refine ⟨?_, ?_, ?_, lev_int l⟩
  · simp only [PyData.showable]
    refine decide_eq_true ?_
    by_cases z : i.natAbs = 0
    · rw [z]; decide
    · have := (Nat.log2_lt z).mpr h
      omega
  · simp only [PyData.leavesShort]
    refine decide_eq_true ?_
    have e10 : (2 : Nat) ^ 600 < 10 ^ 199 := by decide +kernel
    have h10 : i.natAbs < 10 ^ 199 := Nat.lt_trans (Nat.lt_of_lt_of_le h (Nat.pow_le_pow_right (by omega) hk)) e10
    have e := int_text_length_le10 (k := 199) (by decide) h10
    show (Str.ofString (toString i)).length ≤ 200
    rw [ofString_length]; exact e
  · simp [PyData.bulk]
theorem rpb_int {i : Int} {l : Nat} (h1 : -999999999999 ≤ i) (h2 : i ≤ 999999999999) : RpB (.int i) 0 l :=
  rpb_intW (k := 40) (Nat.lt_of_le_of_lt (show i.natAbs ≤ 999999999999 by omega) (by decide +kernel)) (by omega)
theorem rpb_bool {q : Bool} {l : Nat} : RpB (.bool q) 0 l := ⟨by simp [PyData.showable], by simp [PyData.leavesShort], by simp [PyData.bulk], lev_bool l q⟩
theorem rpb_all {b l : Nat} : ∀ {xs : List PyData}, (∀ x ∈ xs, RpB x b l) → PyData.showableAll xs = true ∧ PyData.leavesShortAll 200 xs = true ∧ PyData.bulkAll xs ≤ (b + 1) * xs.length ∧ xs.all (lev l) = true
  | [], _ => ⟨rfl, rfl, by simp [PyData.bulkAll], rfl⟩
  | x :: xs, h => by
    obtain ⟨h1, h2, h3, h4⟩ := rpb_all (xs := xs) fun y hy => h y (List.mem_cons_of_mem _ hy)
    have hx := h x (List.mem_cons_self ..)
    refine ⟨by simp [PyData.showableAll, hx.sh, h1], by simp [PyData.leavesShortAll, hx.ls, h2], ?_, by simp [hx.lv, h4]⟩
    have := hx.bk
    rw [PyData.bulkAll, List.length_cons, Nat.mul_add]
    omega
theorem rpb_list {xs : List PyData} {b l k : Nat} (h : ∀ x ∈ xs, RpB x b l) (hk : (b + 1) * xs.length ≤ k) : RpB (.list xs) k (l + 1) := by
  obtain ⟨h1, h2, h3, h4⟩ := rpb_all h
  exact ⟨by simpa [PyData.showable] using h1, by simpa [PyData.leavesShort] using h2, by simp only [PyData.bulk]; omega, h4⟩
theorem rpb_tup {xs : List PyData} {b l k : Nat} (h : ∀ x ∈ xs, RpB x b l) (hk : (b + 1) * xs.length ≤ k) : RpB (.tuple xs) k (l + 1) := by
  obtain ⟨h1, h2, h3, h4⟩ := rpb_all h
  exact ⟨by simpa [PyData.showable] using h1, by simpa [PyData.leavesShort] using h2, by simp only [PyData.bulk]; omega, h4⟩
theorem rpb_ints {ns : List Int} {l k : Nat} (h : ∀ x ∈ ns, -999999999999 ≤ x ∧ x ≤ 999999999999) (hk : ns.length ≤ k) : RpB (.list (ns.map .int)) k (l + 1) :=
  rpb_list (b := 0) (fun x hx => by
    obtain ⟨i, hi, rfl⟩ := List.mem_map.mp hx
    exact rpb_int (h i hi).1 (h i hi).2) (by rw [List.length_map]; omega)
/-! sorted lists -/
def lx (p q : Int × Int) : Prop := p.1 < q.1 ∨ (p.1 = q.1 ∧ p.2 < q.2)
instance (p q : Int × Int) : Decidable (lx p q) := inferInstanceAs (Decidable (_ ∨ _))
def srtI (ns : List Int) : List Int := ns.mergeSort fun p q => !DatumOrd.lt q p
def srtP (ns : List (Int × Int)) : List (Int × Int) := ns.mergeSort fun p q => !DatumOrd.lt q p
theorem sortD_ints (ns : List Int) : sortD (ns.map .int) = (srtI ns).map .int := sortD_datum ns
theorem sortD_pairs (ns : List (Int × Int)) : sortD (ns.map pd) = (srtP ns).map pd := sortD_datum ns
theorem ltI (p q : Int) : DatumOrd.lt p q = decide (p < q) := rfl
theorem ltP (p q : Int × Int) : DatumOrd.lt p q = decide (lx p q) := by
  rw [Bool.eq_iff_iff, decide_eq_true_eq]
  unfold lx
  show (if p.1 = q.1 then decide (p.2 < q.2) else decide (p.1 < q.1)) = true ↔ _
  by_cases h : p.1 = q.1
  · rw [if_pos h, decide_eq_true_eq]
    omega
  · rw [if_neg h, decide_eq_true_eq]
    omega
theorem srtI_perm (ns : List Int) : (srtI ns).Perm ns := List.mergeSort_perm ..
theorem srtP_perm (ns : List (Int × Int)) : (srtP ns).Perm ns := List.mergeSort_perm ..
theorem srtI_le (ns : List Int) : (srtI ns).Pairwise (· ≤ ·) := by
  refine (List.pairwise_mergeSort (fun p q r h1 h2 => ?_) (fun p q => ?_) ns).imp fun h => ?_
  · simp only [ltI, Bool.not_eq_true', decide_eq_false_iff_not] at *
    omega
  · simp only [ltI, Bool.or_eq_true, Bool.not_eq_true', decide_eq_false_iff_not]
    omega
  · simp only [ltI, Bool.not_eq_true', decide_eq_false_iff_not] at h
    omega
theorem srtP_le (ns : List (Int × Int)) : (srtP ns).Pairwise fun p q => ¬ lx q p := by
  refine (List.pairwise_mergeSort (fun p q r h1 h2 => ?_) (fun p q => ?_) ns).imp fun {p q} h => ?_
  · simp only [ltP, Bool.not_eq_true', decide_eq_false_iff_not] at *
    unfold lx at *
    omega
  · simp only [ltP, Bool.or_eq_true, Bool.not_eq_true', decide_eq_false_iff_not]
    unfold lx
    omega
  · simpa only [ltP, Bool.not_eq_true', decide_eq_false_iff_not] using h
theorem srtI_lt {ns : List Int} (h : ns.Nodup) : (srtI ns).Pairwise (· < ·) :=
  List.Pairwise.imp₂ (fun p q h1 h2 => by omega) (srtI_le ns) ((srtI_perm ns).nodup_iff.mpr h)
theorem srtP_lt {ns : List (Int × Int)} (h : ns.Nodup) : (srtP ns).Pairwise lx :=
  List.Pairwise.imp₂ (fun p q h1 (h2 : p ≠ q) => by
    unfold lx at *
    by_cases e1 : p.1 = q.1
    · by_cases e2 : p.2 = q.2
      · exact absurd (Prod.ext e1 e2) h2
      · omega
    · omega) (srtP_le ns) ((srtP_perm ns).nodup_iff.mpr h)
/-- two rising lists with the same items are one -/
theorem rising_eq {α : Type} {R : α → α → Prop} (irr : ∀ p, ¬ R p p) (asy : ∀ p q, R p q → R q p → False) : ∀ (l m : List α), l.Pairwise R → m.Pairwise R → (∀ p, p ∈ l ↔ p ∈ m) → l = m
  | [], [], _, _, _ => rfl
  | [], q :: m, _, _, h => absurd ((h q).mpr (List.mem_cons_self ..)) (by simp)
  | p :: l, [], _, _, h => absurd ((h p).mp (List.mem_cons_self ..)) (by simp)
  | p :: l, q :: m, h1, h2, h => by
    rw [List.pairwise_cons] at h1 h2
    have e : p = q := by
      rcases List.mem_cons.mp ((h p).mp (List.mem_cons_self ..)) with e | e
      · exact e
      · rcases List.mem_cons.mp ((h q).mpr (List.mem_cons_self ..)) with e' | e'
        · exact e'.symm
        · exact absurd (h1.1 q e') fun k => asy _ _ k (h2.1 p e)
    subst e
    congr 1
    refine rising_eq irr asy l m h1.2 h2.2 fun r => ⟨fun k => ?_, fun k => ?_⟩
    · rcases List.mem_cons.mp ((h r).mp (List.mem_cons_of_mem _ k)) with e | e
      · subst e; exact absurd (h1.1 _ k) (irr _)
      · exact e
    · rcases List.mem_cons.mp ((h r).mpr (List.mem_cons_of_mem _ k)) with e | e
      · subst e; exact absurd (h2.1 _ k) (irr _)
      · exact e
theorem risingI {l m : List Int} (h1 : l.Pairwise (· < ·)) (h2 : m.Pairwise (· < ·)) (h : ∀ p, p ∈ l ↔ p ∈ m) : l = m := rising_eq (R := (· < ·)) (fun p => by omega) (fun p q => by omega) l m h1 h2 h
end
end Vm
end
section
set_option Elab.async false
set_option linter.all false
set_option maxRecDepth 100000
namespace Vm
open PySem L2 PySem.W PySem.SeqAt
section
variable {g : U → Env → Option Env} {ς : Env} {vs : List Nat} {tt : Env → Res Bool} {te : Env → Res Rv}
theorem loopC_mapD {α : Type} (e : α → U) (F : α → PyData) (xs : List α) (h : ∀ x ∈ xs, stepC vs g tt te (e x) ς = .ok (some (.d (F x))) ς) : loopC vs g tt te (xs.map e) [] ς = .ok ((xs.map F).map .d) ς := by
  rw [loopC_map e (fun x => some (.d (F x))) xs h, List.map_map]
  congr 1
  exact congrFun List.filterMap_eq_map xs
theorem loopC_mapU {α : Type} (e : α → U) (F : α → U) (xs : List α) (h : ∀ x ∈ xs, stepC vs g tt te (e x) ς = .ok (some (F x)) ς) : loopC vs g tt te (xs.map e) [] ς = .ok (xs.map F) ς := by
  rw [loopC_map e (fun x => some (F x)) xs h]
  congr 1
  exact congrFun List.filterMap_eq_map xs
theorem loopC_filD {α : Type} (e : α → U) (p : α → Bool) (F : α → PyData) (xs : List α) (h : ∀ x ∈ xs, stepC vs g tt te (e x) ς = .ok (if p x then some (.d (F x)) else none) ς) : loopC vs g tt te (xs.map e) [] ς = .ok (((xs.filter p).map F).map .d) ς := by
  rw [loopC_map e (fun x => if p x then some (.d (F x)) else none) xs h]
  congr 1
  clear h
  induction xs with
  | nil => rfl
  | cons x xs ih =>
    cases hp : p x <;> simp [hp, ih]
theorem rngU_map (n : Nat) : rngU 0 n = (List.range n).map fun i : Nat => U.d (.int (i : Nat)) := by
  unfold rngU
  exact List.map_congr_left fun i _ => by rw [Int.zero_add]
theorem rngU_lenle {n : Nat} (h : n ≤ 1000000) : (rngU 0 n).length ≤ 1000000 := by rw [rngU_len]; exact h
theorem toDs_own {α : Type} (f : α → List PyData) : ∀ l : List α, U.toDs (l.map fun i => .own ((f i).map .d)) = some (l.map fun i => .list (f i))
  | [] => toDs_n
  | a :: l => by rw [List.map_cons, List.map_cons, toDs_o, toDs_m, toDs_own f l]; rfl
theorem zipU_map : ∀ xs ys : List PyData, zipU xs ys = (xs.zip ys).map fun p => .pr [.d p.1, .d p.2]
  | [], _ => rfl
  | _ :: _, [] => rfl
  | x :: xs, y :: ys => by rw [zipU, zipU_map xs ys]; rfl
theorem cutL_from1 {α : Type} (xs : List α) : cutL xs (some 1) none = xs.drop 1 := by
  unfold cutL HT.sIx
  cases xs with
  | nil => rfl
  | cons x xs =>
    simp
    theorem zip_next {α : Type} {R : α → α → Prop} : ∀ {l : List α}, l.Pairwise R → ∀ p ∈ l.zip (l.drop 1), R p.1 p.2
  | [], _, p, h => by simp at h
  | [a], _, p, h => by simp at h
  | a :: b :: l, hp, p, h => by
    have h : p ∈ (a, b) :: (b :: l).zip ((b :: l).drop 1) := h
    rw [List.pairwise_cons] at hp
    rcases List.mem_cons.mp h with rfl | h
    · exact hp.1 b (List.mem_cons_self ..)
    · exact zip_next hp.2 p h
theorem fLt_pd (p q : Int × Int) : fLt (pd p) (pd q) = some (.bool (decide (lx p q))) := by
  show cmpB PySem.W.dataLt (pd p) (pd q) = _
  have e : PySem.W.dataLt (pd p) (pd q) = decide (lx p q) := (DatumOrd.lt_eq p q).trans (ltP p q)
  have h : (PySem.W.alike (pd p) (pd q) && notN (pd p) && lev 8 (pd p)) = true := by
    rw [show PySem.W.alike (pd p) (pd q) = true from DatumOrd.alike p q]; rfl
  unfold cmpB
  rw [if_pos h, e]
theorem fIn_pd (p : Int × Int) (ts : List (Int × Int)) : fIn false (pd p) (.tuple (ts.map pd)) = some (.bool (decide (p ∈ ts))) := by
  refine (fIn_tup (y := p) (zs := ts) rfl).trans ?_
  congr
theorem fIn_int (a : Int) (ns : List Int) : fIn false (.int a) (.list (ns.map .int)) = some (.bool (decide (a ∈ ns))) := by
  refine (fIn_lst (y := a) (zs := ns) rfl).trans ?_
  congr
theorem fAll_true {α : Type} (l : List α) : fAll (.list (l.map fun _ => .bool true)) = some (.bool true) := by
  unfold fAll
  simp only [itemsOf]
  have h1 : (l.map fun _ => PyData.bool true).all fit63 = true := by rw [List.all_map, List.all_eq_true]; exact fun _ _ => rfl
  have h2 : (l.map fun _ => PyData.bool true).all PyData.truthy = true := by rw [List.all_map, List.all_eq_true]; exact fun _ _ => rfl
  rw [if_pos h1, h2]
/-! tables -/
def tab (n : Nat) (r : Nat → List U) : List U := (List.range n).map fun i => .own (r i)
theorem tab_len (n : Nat) (r : Nat → List U) : (tab n r).length = n := by simp [tab]
theorem tab_get {n i : Nat} (r : Nat → List U) (h : i < n) : (tab n r)[i]? = some (.own (r i)) := by simp [tab, h]
theorem tab_set {n j : Nat} (r : Nat → List U) (w : List U) : (tab n r).set j (.own w) = tab n fun i => if i = j then w else r i := by
  refine List.ext_getElem? fun i => ?_
  rw [List.getElem?_set]
  by_cases h : i < n
  · rw [tab_get _ h, tab_get _ h, tab_len]
    by_cases e : j = i
    · subst e; simp [h]
    · rw [if_neg e, if_neg (fun k => e k.symm)]
  · have h0 : n ≤ i := by omega
    rw [List.getElem?_eq_none (by rw [tab_len]; exact h0), List.getElem?_eq_none (by rw [tab_len]; exact h0), tab_len]
    split
    · rw [if_neg (by omega)]
    · rfl
theorem tab_congr {n : Nat} {r r' : Nat → List U} (h : ∀ i, i < n → r i = r' i) : tab n r = tab n r' := List.map_congr_left fun i hi => by rw [h i (List.mem_range.mp hi)]
theorem ixN_of {n : Nat} {a : Int} (h : 0 ≤ a) (h2 : a < n) : ixN n a = some a.toNat := by
  unfold ixN
  rw [if_pos h, if_pos (by omega)]
theorem ixN_tab {n : Nat} {r : Nat → List U} {a : Int} (h : 0 ≤ a) (h2 : a < n) : ixN (tab n r).length a = some a.toNat := by rw [tab_len]; exact ixN_of h h2
theorem atI_at {α : Type} {l : List α} {a : Int} {x : α} (h : 0 ≤ a) (h2 : l[a.toNat]? = some x) : atI l a = some x := by
  have h3 : a.toNat < l.length := (List.getElem?_eq_some_iff.mp h2).1
  unfold atI
  rw [ixN_of h (by omega)]
  exact h2
theorem atI_tab {n : Nat} {r : Nat → List U} {a : Int} (h : 0 ≤ a) (h2 : a < n) : atI (tab n r) a = some (.own (r a.toNat)) := atI_at h (tab_get r (by omega))
end
end Vm
end
section
set_option autoImplicit false
set_option Elab.async false
set_option linter.all false
set_option maxRecDepth 100000
namespace Vm
open PySem L2 PySem.W
section
variable {t : Env → Res Bool} {body : Env → Res Fl} {ς ς1 ς2 : Env}
/-! ### while -/
theorem mWhile_f (h : t ς = .ok false ς1) : mWhile t body ς = .ok .next ς1 := mWhile_eq (n := 1) (by simp only [runW, h])
theorem runW_step {n : Nat} (h : t ς = .ok true ς1) (hb : stepR (body ς1) = .ok .next ς2) : runW t body (n + 1) ς = runW t body n ς2 := by
  rw [runW, h]
  simp only []
  cases hm : body ς1 with
  | stuck => rw [hm] at hb; cases hb
  | exc x ς3 => rw [hm] at hb; cases hb
  | ok f ς3 =>
    rw [hm] at hb
    cases f with
    | next => cases hb; rfl
    | cont => cases hb; rfl
    | brk => cases hb
    | ret u => cases hb
theorem mWhile_t (h : t ς = .ok true ς1) (hb : stepR (body ς1) = .ok .next ς2) : mWhile t body ς = mWhile t body ς2 := by
  by_cases hx : ∃ n r, runW t body n ς2 = some r
  · obtain ⟨n, r, hr⟩ := hx
    rw [mWhile_eq hr]
    exact mWhile_eq (n := n + 1) (by rw [runW_step h hb]; exact hr)
  · rw [mWhile_none hx]
    refine mWhile_none fun ⟨n, r, hr⟩ => hx ?_
    cases n with
    | zero => cases hr
    | succ n => rw [runW_step h hb] at hr; exact ⟨n, r, hr⟩
/-- a while by an invariant and a measure -/
theorem mWhile_by {α : Type} (E : α → Env) (m : α → Nat) (I P : α → Prop) (hs : ∀ a, I a → (t (E a) = .ok false (E a) ∧ P a) ∨ ∃ b, t (E a) = .ok true (E a) ∧ stepR (body (E a)) = .ok .next (E b) ∧ I b ∧ m b < m a) :
    ∀ a, I a → ∃ b, mWhile t body (E a) = .ok .next (E b) ∧ P b := by
  have key : ∀ n a, m a ≤ n → I a → ∃ b, mWhile t body (E a) = .ok .next (E b) ∧ P b := by
    intro n
    induction n with
    | zero =>
      intro a hm ha
      rcases hs a ha with ⟨h, p⟩ | ⟨b, _, _, _, h⟩
      · exact ⟨a, mWhile_f h, p⟩
      · omega
    | succ n ih =>
      intro a hm ha
      rcases hs a ha with ⟨h, p⟩ | ⟨b, h1, h2, hb, h⟩
      · exact ⟨a, mWhile_f h, p⟩
      · obtain ⟨c, hc, p⟩ := ih b (by omega) hb
        exact ⟨c, by rw [mWhile_t h1 h2]; exact hc, p⟩
  exact fun a ha => key (m a) a (Nat.le_refl _) ha
/-- a loop that is left by return: none of the items before does -/
theorem loopF_ret {g : U → Env → Option Env} {v : U} {u : U} {us : List U} (h : stepF g body u ς = .ok (.ret v) ς2) : loopF g body (u :: us) ς = .ok (.ret v) ς2 := by
  unfold stepF at h
  rw [loopF]
  cases hg : g u ς with
  | none => rw [hg] at h; cases h
  | some ς1 =>
    rw [hg] at h
    simp only [stepO] at h
    simp only []
    cases hb : body ς1 with
    | ok a ς2 =>
      rw [hb] at h
      cases a with
      | next => cases h
      | cont => cases h
      | brk => cases h
      | ret v => cases h; rfl
    | exc x ς2 => rw [hb] at h; cases h
    | stuck => rw [hb] at h; cases h
end
end Vm
end
section
set_option autoImplicit false
set_option Elab.async false
set_option linter.all false
set_option maxRecDepth 100000
namespace Vm
open PySem L2 PySem.W PySem.SeqAt
section
variable {ς ς1 : Env} {r : Rv} {T1 T2 : String} {ma : Env → Res Rv} {xs : List PyData} {φ : Phi} {rs : List Rv} {x0 : PyData}
/-! ### evaluation of the later constructs -/
def is2K (T1 T2 : String) (r : Rv) (ς : Env) : Res Rv := match pk1 (isi2D T1 T2) r ς with
  | some b => .ok (.tm (.d (.bool b))) ς
  | none => .stuck
def is2C (ς : Env) : Option Bool → Res Rv
  | some b => .ok (.tm (.d (.bool b))) ς
  | none => .stuck
theorem ev_is2 : mIsi2 T1 T2 ma ς = (ma ς).bind (is2K T1 T2) := rfl
theorem is2K_ : is2K T1 T2 r ς = is2C ς (pk1 (isi2D T1 T2) r ς) := by
  unfold is2K is2C
  cases pk1 (isi2D T1 T2) r ς <;> rfl
theorem is2C_ {b : Bool} : is2C ς (some b) = .ok (.tm (.d (.bool b))) ς := rfl
def ixO3 (i : Nat) (us : List U) (j : Nat) (ς : Env) : Option (List PyData) → Res Rv
  | some xs => .ok (.tm (.d (.list xs))) (ς.set i (some (.own (us.set j (.d (.list xs))))))
  | none => .stuck
theorem ixO2_o {i j : Nat} {us ws : List U} : ixO2 i us j ς (some (.own ws)) = ixO3 i us j ς (U.toDs ws) := by
  show (match (U.toDs ws).map PyData.list with
    | some x => Res.ok (Rv.tm (.d x)) (ς.set i (some (.own (us.set j (.d x)))))
    | none => .stuck) = _
  cases U.toDs ws <;> rfl
theorem ixO3_ {i j : Nat} {us : List U} : ixO3 i us j ς (some xs) = .ok (.tm (.d (.list xs))) (ς.set i (some (.own (us.set j (.d (.list xs)))))) := rfl
theorem evx : type_of% (And.intro (@ixO2_o) (And.intro (@ixO3_) (And.intro (@ev_is2) (And.intro (@is2K_) (And.intro (@is2C_) (And.intro (@isi2_lt_list) (And.intro (@isi2_lt_tuple) (And.intro (@isi2_lt_none) (And.intro (@isi2_lt_bool) (And.intro (@isi2_lt_int) @isi2_lt_str)))))))))) := And.intro (@ixO2_o) (And.intro (@ixO3_) (And.intro (@ev_is2) (And.intro (@is2K_) (And.intro (@is2C_) (And.intro (@isi2_lt_list) (And.intro (@isi2_lt_tuple) (And.intro (@isi2_lt_none) (And.intro (@isi2_lt_bool) (And.intro (@isi2_lt_int) @isi2_lt_str)))))))))
end
/-! ### loops over written lists, turn by turn -/
section
variable {g : U → Env → Option Env} {body : Env → Res Fl} {ς ς1 : Env} {us acc : List U} {u v : U} {vs : List Nat} {tt : Env → Res Bool} {te : Env → Res Rv} {o : Option U}
def lfK (g : U → Env → Option Env) (body : Env → Res Fl) (us : List U) : Res Fl → Res Fl
  | .ok .next ς => loopF g body us ς
  | .ok .brk ς => .ok .next ς
  | r => r
theorem loopF_n : loopF g body [] ς = .ok .next ς := rfl
theorem loopF_c : loopF g body (u :: us) ς = lfK g body us (stepF g body u ς) := by
  unfold stepF
  rw [loopF]
  cases hg : g u ς with
  | none => rfl
  | some ς1 =>
    show _ = lfK g body us (stepR (body ς1))
    simp only []
    cases hb : body ς1 with
    | stuck => rfl
    | exc x ς2 => rfl
    | ok a ς2 => cases a <;> rfl
theorem lfK_n : lfK g body us (.ok .next ς) = loopF g body us ς := rfl
theorem lfK_b : lfK g body us (.ok .brk ς) = .ok .next ς := rfl
theorem lfK_r : lfK g body us (.ok (.ret v) ς) = .ok (.ret v) ς := rfl
theorem stepR_r : stepR (.ok (.ret v) ς) = .ok (.ret v) ς := rfl
theorem stepR_b : stepR (.ok .brk ς) = .ok .brk ς := rfl
def lkK (vs : List Nat) (g : U → Env → Option Env) (tt : Env → Res Bool) (te : Env → Res Rv) (us acc : List U) : Res (Option U) → Res (List U)
  | .ok o ς => loopC vs g tt te us (acc ++ o.toList) ς
  | _ => .stuck
theorem loopC_n : loopC vs g tt te [] acc ς = .ok acc ς := rfl
theorem loopC_c : loopC vs g tt te (u :: us) acc ς = lkK vs g tt te us acc (stepC vs g tt te u ς) := by
  cases h : stepC vs g tt te u ς with
  | ok o ς1 => exact loopC_step h
  | exc x ς1 =>
    show _ = Res.stuck
    unfold stepC stC1 at h
    rw [loopC]
    cases hg : g u ς with
    | none => rfl
    | some ς2 =>
      rw [hg] at h
      simp only [] at h ⊢
      cases ht : tt ς2 with
      | stuck => rfl
      | exc y ς3 => rfl
      | ok b ς3 =>
        rw [ht] at h
        cases b with
        | false => cases h
        | true =>
          have h : (te ς3).bind (stC3 vs) = .exc x ς1 := h
          cases he : te ς3 with
          | exc y ς4 => simp only [he]
          | stuck => simp only [he]
          | ok r ς4 =>
            rw [he] at h
            have h : stC4 vs (r.share ς4) = .exc x ς1 := h
            simp only [he]
            cases hr : r.share ς4 with
            | none => rfl
            | some p => rw [hr] at h; cases h
  | stuck =>
    show _ = Res.stuck
    unfold stepC stC1 at h
    rw [loopC]
    cases hg : g u ς with
    | none => rfl
    | some ς2 =>
      rw [hg] at h
      simp only [] at h ⊢
      cases ht : tt ς2 with
      | stuck => rfl
      | exc y ς3 => rfl
      | ok b ς3 =>
        rw [ht] at h
        cases b with
        | false => cases h
        | true =>
          have h : (te ς3).bind (stC3 vs) = .stuck := h
          cases he : te ς3 with
          | exc y ς4 => simp only [he]
          | stuck => simp only [he]
          | ok r ς4 =>
            rw [he] at h
            have h : stC4 vs (r.share ς4) = .stuck := h
            simp only [he]
            cases hr : r.share ς4 with
            | none => rfl
            | some p => rw [hr] at h; cases h
theorem lkK_s : lkK vs g tt te us acc (.ok (some u) ς) = loopC vs g tt te us (acc ++ [u]) ς := rfl
theorem lkK_o : lkK vs g tt te us acc (.ok none ς) = loopC vs g tt te us acc ς := by show loopC vs g tt te us (acc ++ []) ς = _; rw [List.append_nil]
theorem cutL_t0 {α : Type} {xs : List α} : cutL xs none (some 0) = [] := by simp [cutL, HT.sIx]
theorem sIx_nat (n d k : Nat) : HT.sIx n d (some (k : Int)) = min k n := by
  unfold HT.sIx
  simp
  intro h
  omega
theorem cutL_tk {α : Type} {xs : List α} (k : Nat) : cutL xs none (some (k : Int)) = xs.take k := by
  unfold cutL
  rw [sIx_nat]
  show (xs.drop 0).take (min k xs.length - 0) = _
  rw [List.drop_zero, Nat.sub_zero, List.take_eq_take_iff]
  omega
theorem cutL_dk {α : Type} {xs : List α} (k : Nat) : cutL xs (some (k : Int)) none = xs.drop k := by
  unfold cutL
  rw [sIx_nat]
  show (xs.drop (min k xs.length)).take (xs.length - min k xs.length) = _
  rw [List.take_of_length_le (by rw [List.length_drop]; omega)]
  by_cases h : k ≤ xs.length
  · rw [Nat.min_eq_left h]
  · rw [Nat.min_eq_right (by omega), List.drop_length, List.drop_eq_nil_of_le (by omega)]
end
section
variable {b0 b1 b2 b3 b4 b5 b6 b7 b8 b9 b10 b11 b12 : Bool} {i0 i1 i2 i3 i4 i5 i6 i7 i8 i9 i10 i11 i12 : Int}
theorem fAll_0 : fAll (.list []) = some (.bool (true)) := by
  have h : (List.all (α := PyData) [] fit63) = true := rfl
  unfold fAll
  simp only [itemsOf]
  rw [if_pos h]
  simp [List.all, PyData.truthy, Bool.and_assoc]
theorem fAny_0 : fAny (.list []) = some (.bool (false)) := by
  have h : (List.all (α := PyData) [] fit63) = true := rfl
  unfold fAny
  simp only [itemsOf]
  rw [if_pos h]
  simp [List.any, PyData.truthy, Bool.or_assoc]
theorem fAll_1 : fAll (.list [.bool b0]) = some (.bool (b0)) := by
  have h : (List.all (α := PyData) [.bool b0] fit63) = true := rfl
  unfold fAll
  simp only [itemsOf]
  rw [if_pos h]
  simp [List.all, PyData.truthy, Bool.and_assoc]
theorem fAny_1 : fAny (.list [.bool b0]) = some (.bool (b0)) := by
  have h : (List.all (α := PyData) [.bool b0] fit63) = true := rfl
  unfold fAny
  simp only [itemsOf]
  rw [if_pos h]
  simp [List.any, PyData.truthy, Bool.or_assoc]
theorem fAll_2 : fAll (.list [.bool b0, .bool b1]) = some (.bool (b0 && b1)) := by
  have h : (List.all (α := PyData) [.bool b0, .bool b1] fit63) = true := rfl
  unfold fAll
  simp only [itemsOf]
  rw [if_pos h]
  simp [List.all, PyData.truthy, Bool.and_assoc]
theorem fAny_2 : fAny (.list [.bool b0, .bool b1]) = some (.bool (b0 || b1)) := by
  have h : (List.all (α := PyData) [.bool b0, .bool b1] fit63) = true := rfl
  unfold fAny
  simp only [itemsOf]
  rw [if_pos h]
  simp [List.any, PyData.truthy, Bool.or_assoc]
theorem fAll_3 : fAll (.list [.bool b0, .bool b1, .bool b2]) = some (.bool (b0 && b1 && b2)) := by
  have h : (List.all (α := PyData) [.bool b0, .bool b1, .bool b2] fit63) = true := rfl
  unfold fAll
  simp only [itemsOf]
  rw [if_pos h]
  simp [List.all, PyData.truthy, Bool.and_assoc]
theorem fAny_3 : fAny (.list [.bool b0, .bool b1, .bool b2]) = some (.bool (b0 || b1 || b2)) := by
  have h : (List.all (α := PyData) [.bool b0, .bool b1, .bool b2] fit63) = true := rfl
  unfold fAny
  simp only [itemsOf]
  rw [if_pos h]
  simp [List.any, PyData.truthy, Bool.or_assoc]
theorem fAll_4 : fAll (.list [.bool b0, .bool b1, .bool b2, .bool b3]) = some (.bool (b0 && b1 && b2 && b3)) := by
  have h : (List.all (α := PyData) [.bool b0, .bool b1, .bool b2, .bool b3] fit63) = true := rfl
  unfold fAll
  simp only [itemsOf]
  rw [if_pos h]
  simp [List.all, PyData.truthy, Bool.and_assoc]
theorem fAny_4 : fAny (.list [.bool b0, .bool b1, .bool b2, .bool b3]) = some (.bool (b0 || b1 || b2 || b3)) := by
  have h : (List.all (α := PyData) [.bool b0, .bool b1, .bool b2, .bool b3] fit63) = true := rfl
  unfold fAny
  simp only [itemsOf]
  rw [if_pos h]
  simp [List.any, PyData.truthy, Bool.or_assoc]
theorem fAll_5 : fAll (.list [.bool b0, .bool b1, .bool b2, .bool b3, .bool b4]) = some (.bool (b0 && b1 && b2 && b3 && b4)) := by
  have h : (List.all (α := PyData) [.bool b0, .bool b1, .bool b2, .bool b3, .bool b4] fit63) = true := rfl
  unfold fAll
  simp only [itemsOf]
  rw [if_pos h]
  simp [List.all, PyData.truthy, Bool.and_assoc]
theorem fAny_5 : fAny (.list [.bool b0, .bool b1, .bool b2, .bool b3, .bool b4]) = some (.bool (b0 || b1 || b2 || b3 || b4)) := by
  have h : (List.all (α := PyData) [.bool b0, .bool b1, .bool b2, .bool b3, .bool b4] fit63) = true := rfl
  unfold fAny
  simp only [itemsOf]
  rw [if_pos h]
  simp [List.any, PyData.truthy, Bool.or_assoc]
theorem fAll_6 : fAll (.list [.bool b0, .bool b1, .bool b2, .bool b3, .bool b4, .bool b5]) = some (.bool (b0 && b1 && b2 && b3 && b4 && b5)) := by
  have h : (List.all (α := PyData) [.bool b0, .bool b1, .bool b2, .bool b3, .bool b4, .bool b5] fit63) = true := rfl
  unfold fAll
  simp only [itemsOf]
  rw [if_pos h]
  simp [List.all, PyData.truthy, Bool.and_assoc]
theorem fAny_6 : fAny (.list [.bool b0, .bool b1, .bool b2, .bool b3, .bool b4, .bool b5]) = some (.bool (b0 || b1 || b2 || b3 || b4 || b5)) := by
  have h : (List.all (α := PyData) [.bool b0, .bool b1, .bool b2, .bool b3, .bool b4, .bool b5] fit63) = true := rfl
  unfold fAny
  simp only [itemsOf]
  rw [if_pos h]
  simp [List.any, PyData.truthy, Bool.or_assoc]
theorem fAll_7 : fAll (.list [.bool b0, .bool b1, .bool b2, .bool b3, .bool b4, .bool b5, .bool b6]) = some (.bool (b0 && b1 && b2 && b3 && b4 && b5 && b6)) := by
  have h : (List.all (α := PyData) [.bool b0, .bool b1, .bool b2, .bool b3, .bool b4, .bool b5, .bool b6] fit63) = true := rfl
  unfold fAll
  simp only [itemsOf]
  rw [if_pos h]
  simp [List.all, PyData.truthy, Bool.and_assoc]
theorem fAny_7 : fAny (.list [.bool b0, .bool b1, .bool b2, .bool b3, .bool b4, .bool b5, .bool b6]) = some (.bool (b0 || b1 || b2 || b3 || b4 || b5 || b6)) := by
  have h : (List.all (α := PyData) [.bool b0, .bool b1, .bool b2, .bool b3, .bool b4, .bool b5, .bool b6] fit63) = true := rfl
  unfold fAny
  simp only [itemsOf]
  rw [if_pos h]
  simp [List.any, PyData.truthy, Bool.or_assoc]
theorem fAll_8 : fAll (.list [.bool b0, .bool b1, .bool b2, .bool b3, .bool b4, .bool b5, .bool b6, .bool b7]) = some (.bool (b0 && b1 && b2 && b3 && b4 && b5 && b6 && b7)) := by
  have h : (List.all (α := PyData) [.bool b0, .bool b1, .bool b2, .bool b3, .bool b4, .bool b5, .bool b6, .bool b7] fit63) = true := rfl
  unfold fAll
  simp only [itemsOf]
  rw [if_pos h]
  simp [List.all, PyData.truthy, Bool.and_assoc]
theorem fAny_8 : fAny (.list [.bool b0, .bool b1, .bool b2, .bool b3, .bool b4, .bool b5, .bool b6, .bool b7]) = some (.bool (b0 || b1 || b2 || b3 || b4 || b5 || b6 || b7)) := by
  have h : (List.all (α := PyData) [.bool b0, .bool b1, .bool b2, .bool b3, .bool b4, .bool b5, .bool b6, .bool b7] fit63) = true := rfl
  unfold fAny
  simp only [itemsOf]
  rw [if_pos h]
  simp [List.any, PyData.truthy, Bool.or_assoc]
theorem fAll_9 : fAll (.list [.bool b0, .bool b1, .bool b2, .bool b3, .bool b4, .bool b5, .bool b6, .bool b7, .bool b8]) = some (.bool (b0 && b1 && b2 && b3 && b4 && b5 && b6 && b7 && b8)) := by
  have h : (List.all (α := PyData) [.bool b0, .bool b1, .bool b2, .bool b3, .bool b4, .bool b5, .bool b6, .bool b7, .bool b8] fit63) = true := rfl
  unfold fAll
  simp only [itemsOf]
  rw [if_pos h]
  simp [List.all, PyData.truthy, Bool.and_assoc]
theorem fAny_9 : fAny (.list [.bool b0, .bool b1, .bool b2, .bool b3, .bool b4, .bool b5, .bool b6, .bool b7, .bool b8]) = some (.bool (b0 || b1 || b2 || b3 || b4 || b5 || b6 || b7 || b8)) := by
  have h : (List.all (α := PyData) [.bool b0, .bool b1, .bool b2, .bool b3, .bool b4, .bool b5, .bool b6, .bool b7, .bool b8] fit63) = true := rfl
  unfold fAny
  simp only [itemsOf]
  rw [if_pos h]
  simp [List.any, PyData.truthy, Bool.or_assoc]
theorem fAll_10 : fAll (.list [.bool b0, .bool b1, .bool b2, .bool b3, .bool b4, .bool b5, .bool b6, .bool b7, .bool b8, .bool b9]) = some (.bool (b0 && b1 && b2 && b3 && b4 && b5 && b6 && b7 && b8 && b9)) := by
  have h : (List.all (α := PyData) [.bool b0, .bool b1, .bool b2, .bool b3, .bool b4, .bool b5, .bool b6, .bool b7, .bool b8, .bool b9] fit63) = true := rfl
  unfold fAll
  simp only [itemsOf]
  rw [if_pos h]
  simp [List.all, PyData.truthy, Bool.and_assoc]
theorem fAny_10 : fAny (.list [.bool b0, .bool b1, .bool b2, .bool b3, .bool b4, .bool b5, .bool b6, .bool b7, .bool b8, .bool b9]) = some (.bool (b0 || b1 || b2 || b3 || b4 || b5 || b6 || b7 || b8 || b9)) := by
  have h : (List.all (α := PyData) [.bool b0, .bool b1, .bool b2, .bool b3, .bool b4, .bool b5, .bool b6, .bool b7, .bool b8, .bool b9] fit63) = true := rfl
  unfold fAny
  simp only [itemsOf]
  rw [if_pos h]
  simp [List.any, PyData.truthy, Bool.or_assoc]
theorem fAll_11 : fAll (.list [.bool b0, .bool b1, .bool b2, .bool b3, .bool b4, .bool b5, .bool b6, .bool b7, .bool b8, .bool b9, .bool b10]) = some (.bool (b0 && b1 && b2 && b3 && b4 && b5 && b6 && b7 && b8 && b9 && b10)) := by
  have h : (List.all (α := PyData) [.bool b0, .bool b1, .bool b2, .bool b3, .bool b4, .bool b5, .bool b6, .bool b7, .bool b8, .bool b9, .bool b10] fit63) = true := rfl
  unfold fAll
  simp only [itemsOf]
  rw [if_pos h]
  simp [List.all, PyData.truthy, Bool.and_assoc]
theorem fAny_11 : fAny (.list [.bool b0, .bool b1, .bool b2, .bool b3, .bool b4, .bool b5, .bool b6, .bool b7, .bool b8, .bool b9, .bool b10]) = some (.bool (b0 || b1 || b2 || b3 || b4 || b5 || b6 || b7 || b8 || b9 || b10)) := by
  have h : (List.all (α := PyData) [.bool b0, .bool b1, .bool b2, .bool b3, .bool b4, .bool b5, .bool b6, .bool b7, .bool b8, .bool b9, .bool b10] fit63) = true := rfl
  unfold fAny
  simp only [itemsOf]
  rw [if_pos h]
  simp [List.any, PyData.truthy, Bool.or_assoc]
theorem fAll_12 : fAll (.list [.bool b0, .bool b1, .bool b2, .bool b3, .bool b4, .bool b5, .bool b6, .bool b7, .bool b8, .bool b9, .bool b10, .bool b11]) = some (.bool (b0 && b1 && b2 && b3 && b4 && b5 && b6 && b7 && b8 && b9 && b10 && b11)) := by
  have h : (List.all (α := PyData) [.bool b0, .bool b1, .bool b2, .bool b3, .bool b4, .bool b5, .bool b6, .bool b7, .bool b8, .bool b9, .bool b10, .bool b11] fit63) = true := rfl
  unfold fAll
  simp only [itemsOf]
  rw [if_pos h]
  simp [List.all, PyData.truthy, Bool.and_assoc]
theorem fAny_12 : fAny (.list [.bool b0, .bool b1, .bool b2, .bool b3, .bool b4, .bool b5, .bool b6, .bool b7, .bool b8, .bool b9, .bool b10, .bool b11]) = some (.bool (b0 || b1 || b2 || b3 || b4 || b5 || b6 || b7 || b8 || b9 || b10 || b11)) := by
  have h : (List.all (α := PyData) [.bool b0, .bool b1, .bool b2, .bool b3, .bool b4, .bool b5, .bool b6, .bool b7, .bool b8, .bool b9, .bool b10, .bool b11] fit63) = true := rfl
  unfold fAny
  simp only [itemsOf]
  rw [if_pos h]
  simp [List.any, PyData.truthy, Bool.or_assoc]
end
theorem evq : type_of% (And.intro (@fAll_0) ( And.intro (@fAny_0) ( And.intro (@fAll_1) ( And.intro (@fAny_1) ( And.intro (@fAll_2) ( And.intro (@fAny_2) ( And.intro (@fAll_3) ( And.intro (@fAny_3) ( And.intro (@fAll_4) ( And.intro (@fAny_4) ( And.intro (@fAll_5) ( And.intro (@fAny_5) ( And.intro (@fAll_6) ( And.intro (@fAny_6) ( And.intro (@fAll_7) ( And.intro (@fAny_7) ( And.intro (@fAll_8) ( And.intro (@fAny_8) ( And.intro (@fAll_9) ( And.intro (@fAny_9) ( And.intro (@fAll_10) ( And.intro (@fAny_10) ( And.intro (@fAll_11) ( And.intro (@fAny_11) ( And.intro (@fAll_12) (@fAny_12)))))))))))))))))))))))))) := And.intro (@fAll_0) ( And.intro (@fAny_0) ( And.intro (@fAll_1) ( And.intro (@fAny_1) ( And.intro (@fAll_2) ( And.intro (@fAny_2) ( And.intro (@fAll_3) ( And.intro (@fAny_3) ( And.intro (@fAll_4) ( And.intro (@fAny_4) ( And.intro (@fAll_5) ( And.intro (@fAny_5) ( And.intro (@fAll_6) ( And.intro (@fAny_6) ( And.intro (@fAll_7) ( And.intro (@fAny_7) ( And.intro (@fAll_8) ( And.intro (@fAny_8) ( And.intro (@fAll_9) ( And.intro (@fAny_9) ( And.intro (@fAll_10) ( And.intro (@fAny_10) ( And.intro (@fAll_11) ( And.intro (@fAny_11) ( And.intro (@fAll_12) (@fAny_12)))))))))))))))))))))))))
theorem cutL_t1 {α : Type} {xs : List α} : cutL xs none (some 1) = xs.take 1 := cutL_tk 1
theorem cutL_t2 {α : Type} {xs : List α} : cutL xs none (some 2) = xs.take 2 := cutL_tk 2
theorem cutL_t3 {α : Type} {xs : List α} : cutL xs none (some 3) = xs.take 3 := cutL_tk 3
theorem cutL_t4 {α : Type} {xs : List α} : cutL xs none (some 4) = xs.take 4 := cutL_tk 4
theorem cutL_t5 {α : Type} {xs : List α} : cutL xs none (some 5) = xs.take 5 := cutL_tk 5
theorem cutL_t6 {α : Type} {xs : List α} : cutL xs none (some 6) = xs.take 6 := cutL_tk 6
theorem cutL_d0 {α : Type} {xs : List α} : cutL xs (some 0) none = xs.drop 0 := cutL_dk 0
theorem cutL_d1 {α : Type} {xs : List α} : cutL xs (some 1) none = xs.drop 1 := cutL_dk 1
theorem cutL_d2 {α : Type} {xs : List α} : cutL xs (some 2) none = xs.drop 2 := cutL_dk 2
theorem cutL_d3 {α : Type} {xs : List α} : cutL xs (some 3) none = xs.drop 3 := cutL_dk 3
theorem cutL_d4 {α : Type} {xs : List α} : cutL xs (some 4) none = xs.drop 4 := cutL_dk 4
theorem cutL_d5 {α : Type} {xs : List α} : cutL xs (some 5) none = xs.drop 5 := cutL_dk 5
theorem cutL_d6 {α : Type} {xs : List α} : cutL xs (some 6) none = xs.drop 6 := cutL_dk 6
theorem evc {α : Type} : type_of% (And.intro (@cutL_t1 α) ( And.intro (@cutL_t2 α) ( And.intro (@cutL_t3 α) ( And.intro (@cutL_t4 α) ( And.intro (@cutL_t5 α) ( And.intro (@cutL_t6 α) ( And.intro (@cutL_d0 α) ( And.intro (@cutL_d1 α) ( And.intro (@cutL_d2 α) ( And.intro (@cutL_d3 α) ( And.intro (@cutL_d4 α) ( And.intro (@cutL_d5 α) ( And.intro (@cutL_d6 α) (@cutL_t0 α)))))))))))))) := And.intro (@cutL_t1 α) ( And.intro (@cutL_t2 α) ( And.intro (@cutL_t3 α) ( And.intro (@cutL_t4 α) ( And.intro (@cutL_t5 α) ( And.intro (@cutL_t6 α) ( And.intro (@cutL_d0 α) ( And.intro (@cutL_d1 α) ( And.intro (@cutL_d2 α) ( And.intro (@cutL_d3 α) ( And.intro (@cutL_d4 α) ( And.intro (@cutL_d5 α) ( And.intro (@cutL_d6 α) (@cutL_t0 α)))))))))))))
theorem enumU_n {i : Nat} : enumU i [] = [] := rfl
theorem enumU_c {i : Nat} {x : PyData} {xs : List PyData} : enumU i (x :: xs) = .pr [.d (.int (i : Nat)), .d x] :: enumU (i + 1) xs := rfl
theorem zipU_n {ys : List PyData} : zipU [] ys = [] := by cases ys <;> rfl
theorem zipU_m {x : PyData} {xs : List PyData} : zipU (x :: xs) [] = [] := rfl
theorem zipU_c {x y : PyData} {xs ys : List PyData} : zipU (x :: xs) (y :: ys) = .pr [.d x, .d y] :: zipU xs ys := rfl
theorem lst2_g {us : List U} {ς : Env} (h : us.length ≤ 1000) : lst2 (some (us, ς)) = .ok (.tm (.own us)) ς := if_pos h
theorem tup2_g {xs : List PyData} {ς : Env} (h : xs.length ≤ 1000) : tup2 (some (xs, ς)) = .ok (.tm (.d (.tuple xs))) ς := if_pos h
theorem ckB_g {φ : Phi} {ix : List Nat} {rs ks : List Rv} {ς : Env} (h : isPerm ix (rs ++ ks).length = true) : ckB φ ix rs ks ς = kCall φ [] (pickL ix (rs ++ ks)) ς := if_pos h
def pkG {α : Type} : Option α → List α → List α
  | some a, r => a :: r
  | none, r => r
theorem pickL_n {α : Type} {l : List α} : pickL [] l = [] := rfl
theorem pickL_c {α : Type} {i : Nat} {ix : List Nat} {l : List α} : pickL (i :: ix) l = pkG l[i]? (pickL ix l) := by
  unfold pickL
  rw [List.filterMap_cons]
  cases l[i]? <;> rfl
theorem pkG_s {α : Type} {a : α} {r : List α} : pkG (some a) r = a :: r := rfl
/-! ### bounds -/
section
variable {a b : Int} {k l : Nat}
theorem zmul (ha : a.natAbs < 2 ^ k) (hb : b.natAbs < 2 ^ l) : (a * b).natAbs < 2 ^ (k + l) := by
  rw [Int.natAbs_mul, Nat.pow_add]
  exact Nat.mul_lt_mul'' ha hb
theorem zmono (h : a.natAbs < 2 ^ k) (hl : k ≤ l) : a.natAbs < 2 ^ l := Nat.lt_of_lt_of_le h (Nat.pow_le_pow_right (by omega) hl)
theorem zadd (ha : a.natAbs < 2 ^ k) (hb : b.natAbs < 2 ^ l) : (a + b).natAbs < 2 ^ (k + l + 1) := by
  have h1 := zmono ha (Nat.le_add_right k l)
  have h2 := zmono hb (Nat.le_add_left l k)
  rw [Nat.pow_succ]
  have := Int.natAbs_add_le a b
  omega
theorem zsub (ha : a.natAbs < 2 ^ k) (hb : b.natAbs < 2 ^ l) : (a - b).natAbs < 2 ^ (k + l + 1) := by
  have h1 := zmono ha (Nat.le_add_right k l)
  have h2 := zmono hb (Nat.le_add_left l k)
  rw [Nat.pow_succ]
  have := Int.natAbs_sub_le a b
  omega
theorem zneg (ha : a.natAbs < 2 ^ k) : (-a).natAbs < 2 ^ k := by rw [Int.natAbs_neg]; exact ha
theorem z0 : (0 : Int).natAbs < 2 ^ 0 := by decide
theorem z1 : (1 : Int).natAbs < 2 ^ 1 := by decide
theorem zm1 : (-1 : Int).natAbs < 2 ^ 1 := by decide
theorem z2 : (2 : Int).natAbs < 2 ^ 2 := by decide
theorem zSm (h : a.natAbs < 2 ^ k) (hk : k ≤ 400000) : Sm a := by
  unfold Sm
  by_cases z : a.natAbs = 0
  · rw [z]; decide
  · have := (Nat.log2_lt z).mpr h
    omega
theorem zof (h1 : -(2 ^ k : Int) < a) (h2 : a < (2 ^ k : Int)) : a.natAbs < 2 ^ k := by
  have e : ((2 ^ k : Nat) : Int) = (2 : Int) ^ k := by norm_cast
  omega
end
end Vm
end
section
set_option autoImplicit false
set_option Elab.async false
set_option linter.all false
set_option maxRecDepth 100000
namespace PG
open PySem L2 PySem.W Vm
theorem p_is_integer (i : Int) : phi_is_integer [.d (.int i)] = .ok (.d (.bool true)) [.d (.int i)] := by
  simp only [phi_is_integer, m_is_integer, evs, evl, evx, Bool.not_false, Bool.not_true, decide_true, decide_false, if_true, if_false, List.nil_append, List.cons_append, List.map_nil, List.map_cons, Int.toNat_natCast, Int.zero_add, List.length_cons, List.length_nil, Nat.reduceAdd, Int.cast_ofNat_Int, Int.reduceLT, Int.reduceLE, Int.reduceEq, Int.reduceSub, Int.reduceAdd, Int.reduceMul, Bool.false_eq_true, Int.reduceToNat, Nat.reduceLT, Nat.reduceLeDiff, Int.reduceNeg]
  rfl
theorem p_is_count {i : Int} (h : 0 ≤ i) : phi_is_count [.d (.int i)] = .ok (.d (.bool true)) [.d (.int i)] := by
  simp only [phi_is_count, m_is_count, evs, evl, evx, Bool.not_false, Bool.not_true, decide_true, decide_false, if_true, if_false, List.nil_append, List.cons_append, List.map_nil, List.map_cons, Int.toNat_natCast, Int.zero_add, List.length_cons, List.length_nil, Nat.reduceAdd, Int.cast_ofNat_Int, Int.reduceLT, Int.reduceLE, Int.reduceEq, Int.reduceSub, Int.reduceAdd, Int.reduceMul, Bool.false_eq_true, Int.reduceToNat, Nat.reduceLT, Nat.reduceLeDiff, Int.reduceNeg, p_is_integer, h]
  rfl
def webD (n : Int) (ts : List (Int × Int)) : PyData := .tuple [.str "web", .int n, .tuple (ts.map pd)]
theorem p_want_corner {n i : Int} {ts : List (Int × Int)} (h : 0 ≤ i) (h2 : i < n) : phi_want_corner [.d (webD n ts), .d (.int i)] = .ok (.d (.int i)) [.d (webD n ts), .d (.int i)] := by
  have h3 : ¬ n ≤ i := by omega
  simp only [phi_want_corner, m_want_corner, evs, evl, evx, Bool.not_false, Bool.not_true, decide_true, decide_false, if_true, if_false, List.nil_append, List.cons_append, List.map_nil, List.map_cons, Int.toNat_natCast, Int.zero_add, List.length_cons, List.length_nil, Nat.reduceAdd, Int.cast_ofNat_Int, Int.reduceLT, Int.reduceLE, Int.reduceEq, Int.reduceSub, Int.reduceAdd, Int.reduceMul, Bool.false_eq_true, Int.reduceToNat, Nat.reduceLT, Nat.reduceLeDiff, Int.reduceNeg, webD, p_is_count h, h3]
  rfl
theorem p_is_from_to {i a b : Int} (h : a ≤ i) (h2 : i ≤ b) : phi_is_from_to [.d (.int i), .d (.int a), .d (.int b)] = .ok (.d (.bool true)) [.d (.int i), .d (.int a), .d (.int b)] := by
  simp only [phi_is_from_to, m_is_from_to, evs, evl, evx, Bool.not_false, Bool.not_true, decide_true, decide_false, if_true, if_false, List.nil_append, List.cons_append, List.map_nil, List.map_cons, Int.toNat_natCast, Int.zero_add, List.length_cons, List.length_nil, Nat.reduceAdd, Int.cast_ofNat_Int, Int.reduceLT, Int.reduceLE, Int.reduceEq, Int.reduceSub, Int.reduceAdd, Int.reduceMul, Bool.false_eq_true, Int.reduceToNat, Nat.reduceLT, Nat.reduceLeDiff, Int.reduceNeg, p_is_integer, h, h2]
  rfl
theorem p_tie_of (a b : Int) : phi_tie_of [.d (.int a), .d (.int b)] = .ok (.d (pd (if b < a then b else a, if b > a then b else a))) [.d (.int a), .d (.int b)] := by
  simp only [phi_tie_of, m_tie_of, evs, evl, evx, Bool.not_false, Bool.not_true, decide_true, decide_false, if_true, if_false, List.nil_append, List.cons_append, List.map_nil, List.map_cons, Int.toNat_natCast, Int.zero_add, List.length_cons, List.length_nil, Nat.reduceAdd, Int.cast_ofNat_Int, Int.reduceLT, Int.reduceLE, Int.reduceEq, Int.reduceSub, Int.reduceAdd, Int.reduceMul, Bool.false_eq_true, Int.reduceToNat, Nat.reduceLT, Nat.reduceLeDiff, Int.reduceNeg]
  rfl
theorem p_is_pair_below {p : Int × Int} {n : Int} (h0 : 0 ≤ p.1) (h : p.1 < p.2) (h2 : p.2 < n) : phi_is_pair_below [.d (pd p), .d (.int n)] = .ok (.d (.bool true)) [.d (pd p), .d (.int n)] := by
  have h3 : 0 ≤ p.2 := by omega
  have h4 : ¬ p.1 = p.2 := by omega
  have hb : bestOk [.int p.1, .int p.2] = true := rfl
  have hm : maxD (.int p.1) [.int p.2] = .int p.2 := by
    have := maxD_map p.1 [p.2]
    refine this.trans ?_
    unfold maxOf
    show PyData.int (if decide (p.1 < p.2) = true then p.2 else p.1) = _
    rw [decide_eq_true h, if_pos rfl]
  simp only [phi_is_pair_below, m_is_pair_below, evs, evl, evx, Bool.not_false, Bool.not_true, decide_true, decide_false, if_true, if_false, List.nil_append, List.cons_append, List.map_nil, List.map_cons, Int.toNat_natCast, Int.zero_add, List.length_cons, List.length_nil, Nat.reduceAdd, Int.cast_ofNat_Int, Int.reduceLT, Int.reduceLE, Int.reduceEq, Int.reduceSub, Int.reduceAdd, Int.reduceMul, Bool.false_eq_true, Int.reduceToNat, Nat.reduceLT, Nat.reduceLeDiff, Int.reduceNeg, pd, p_is_count h0, p_is_count h3, h4, hb, hm, h2]
  rfl
structure Good (n : Int) (ts : List (Int × Int)) : Prop where
  n4 : 4 ≤ n
  n12 : n ≤ 12
  rng : ∀ p ∈ ts, 0 ≤ p.1 ∧ p.1 < p.2 ∧ p.2 < n
  srt : ts.Pairwise lx
  len : ts.length ≤ 200
section
variable {n : Int} {ts : List (Int × Int)} (G : Good n ts)
include G
theorem p_is_web : phi_is_web [.d (webD n ts)] = .ok (.d (.bool true)) [.d (webD n ts)] := by
  have hf := p_is_from_to G.n4 G.n12
  have hl : (List.map U.d (List.map pd ts)).length ≤ 1000000 := by
    have := G.len
    simp only [List.length_map]; omega
  simp only [phi_is_web, m_is_web, evs, evl, evx, Bool.not_false, Bool.not_true, decide_true, decide_false, if_true, if_false, List.nil_append, List.cons_append, List.map_nil, List.map_cons, Int.toNat_natCast, Int.zero_add, List.length_cons, List.length_nil, Nat.reduceAdd, Int.cast_ofNat_Int, Int.reduceLT, Int.reduceLE, Int.reduceEq, Int.reduceSub, Int.reduceAdd, Int.reduceMul, Bool.false_eq_true, Int.reduceToNat, Nat.reduceLT, Nat.reduceLeDiff, Int.reduceNeg, webD, hf]
  rw [lcK_ hl, List.map_map, loopC_mapD (U.d ∘ pd) (fun _ => .bool true) ts]
  · have hl2 : (zipU (List.map pd ts) (cutL (List.map pd ts) (some 1) none)).length ≤ 1000000 := by
      have := G.len
      rw [zipU_map]
      simp only [List.length_map, List.length_zip]
      omega
    simp only [evs, evl, evx, Bool.not_false, Bool.not_true, decide_true, decide_false, if_true, if_false, List.nil_append, List.cons_append, List.map_nil, List.map_cons, Int.toNat_natCast, Int.zero_add, List.length_cons, List.length_nil, Nat.reduceAdd, Int.cast_ofNat_Int, Int.reduceLT, Int.reduceLE, Int.reduceEq, Int.reduceSub, Int.reduceAdd, Int.reduceMul, Bool.false_eq_true, Int.reduceToNat, Nat.reduceLT, Nat.reduceLeDiff, Int.reduceNeg, fAll_true]
    rw [lcK_ hl2, zipU_map, cutL_from1, ← List.map_drop, List.zip_map, List.map_map, loopC_mapD _ (fun _ => .bool true) (ts.zip (ts.drop 1))]
    · simp only [evs, evl, evx, Bool.not_false, Bool.not_true, decide_true, decide_false, if_true, if_false, List.nil_append, List.cons_append, List.map_nil, List.map_cons, Int.toNat_natCast, Int.zero_add, List.length_cons, List.length_nil, Nat.reduceAdd, Int.cast_ofNat_Int, Int.reduceLT, Int.reduceLE, Int.reduceEq, Int.reduceSub, Int.reduceAdd, Int.reduceMul, Bool.false_eq_true, Int.reduceToNat, Nat.reduceLT, Nat.reduceLeDiff, Int.reduceNeg, fAll_true]
      rfl
    · intro p hp
      have h := zip_next G.srt p hp
      simp only [evs, evl, evx, Bool.not_false, Bool.not_true, decide_true, decide_false, if_true, if_false, List.nil_append, List.cons_append, List.map_nil, List.map_cons, Int.toNat_natCast, Int.zero_add, List.length_cons, List.length_nil, Nat.reduceAdd, Int.cast_ofNat_Int, Int.reduceLT, Int.reduceLE, Int.reduceEq, Int.reduceSub, Int.reduceAdd, Int.reduceMul, Bool.false_eq_true, Int.reduceToNat, Nat.reduceLT, Nat.reduceLeDiff, Int.reduceNeg, Function.comp_apply, Prod.map_fst, Prod.map_snd, fLt_pd, h]
  · intro p hp
    obtain ⟨h1, h2, h3⟩ := G.rng p hp
    have hb := p_is_pair_below h1 h2 h3
    simp only [evs, evl, evx, Bool.not_false, Bool.not_true, decide_true, decide_false, if_true, if_false, List.nil_append, List.cons_append, List.map_nil, List.map_cons, Int.toNat_natCast, Int.zero_add, List.length_cons, List.length_nil, Nat.reduceAdd, Int.cast_ofNat_Int, Int.reduceLT, Int.reduceLE, Int.reduceEq, Int.reduceSub, Int.reduceAdd, Int.reduceMul, Bool.false_eq_true, Int.reduceToNat, Nat.reduceLT, Nat.reduceLeDiff, Int.reduceNeg, Function.comp_apply]
    simp only [pd] at hb ⊢
    simp only [evs, evl, evx, Bool.not_false, Bool.not_true, decide_true, decide_false, if_true, if_false, List.nil_append, List.cons_append, List.map_nil, List.map_cons, Int.toNat_natCast, Int.zero_add, List.length_cons, List.length_nil, Nat.reduceAdd, Int.cast_ofNat_Int, Int.reduceLT, Int.reduceLE, Int.reduceEq, Int.reduceSub, Int.reduceAdd, Int.reduceMul, Bool.false_eq_true, Int.reduceToNat, Nat.reduceLT, Nat.reduceLeDiff, Int.reduceNeg, hb, h2]
theorem p_want_web : phi_want_web [.d (webD n ts)] = .ok (.d (webD n ts)) [.d (webD n ts)] := by
  simp only [phi_want_web, m_want_web, evs, evl, evx, Bool.not_false, Bool.not_true, decide_true, decide_false, if_true, if_false, List.nil_append, List.cons_append, List.map_nil, List.map_cons, Int.toNat_natCast, Int.zero_add, List.length_cons, List.length_nil, Nat.reduceAdd, Int.cast_ofNat_Int, Int.reduceLT, Int.reduceLE, Int.reduceEq, Int.reduceSub, Int.reduceAdd, Int.reduceMul, Bool.false_eq_true, Int.reduceToNat, Nat.reduceLT, Nat.reduceLeDiff, Int.reduceNeg, p_is_web G]
  rfl
end
/-- the corners beside c, in the order of the ties -/
def adj1 (c : Int) (p : Int × Int) : Option Int := if p.1 = c then some p.2 else if p.2 = c then some p.1 else none
def adj (ts : List (Int × Int)) (c : Int) : List Int := ts.filterMap (adj1 c)
/-- the corners beside c, in order -/
def due (n : Int) (ts : List (Int × Int)) (c : Int) : List Int := ((List.range n.toNat).filter fun j : Nat => decide ((if c < (j : Int) then c else (j : Int), if c > (j : Int) then c else (j : Int)) ∈ ts)).map fun j : Nat => (j : Int)
theorem adj_snoc (ts : List (Int × Int)) (p : Int × Int) (c : Int) : adj (ts ++ [p]) c = adj ts c ++ (adj1 c p).toList := by
  unfold adj
  rw [List.filterMap_append]
  congr 1
theorem adj_len (ts : List (Int × Int)) (c : Int) : (adj ts c).length ≤ ts.length := List.length_filterMap_le ..
section
variable {n : Int} {ts : List (Int × Int)} (G : Good n ts)
include G
theorem adj_mem (c k : Int) : k ∈ adj ts c ↔ (c, k) ∈ ts ∨ (k, c) ∈ ts := by
  unfold adj
  rw [List.mem_filterMap]
  constructor
  · rintro ⟨⟨a, b⟩, hp, h⟩
    unfold adj1 at h
    simp only at h
    split at h
    · rename_i e; subst e; cases h; exact .inl hp
    · split at h
      · rename_i e; subst e; cases h; exact .inr hp
      · cases h
  · rintro (h | h)
    · exact ⟨_, h, by simp [adj1]⟩
    · refine ⟨_, h, ?_⟩
      have := (G.rng _ h).2.1
      simp only at this
      unfold adj1
      simp only
      rw [if_neg (by omega)]
      simp
theorem adj_nodup (c : Int) : (adj ts c).Nodup := by
  unfold adj List.Nodup
  rw [List.pairwise_filterMap]
  refine G.srt.imp_of_mem fun {p q} hp hq h b hb b' hb' e => ?_
  have h1 := G.rng p hp
  have h2 := G.rng q hq
  obtain ⟨p1, p2⟩ := p
  obtain ⟨q1, q2⟩ := q
  unfold adj1 at hb hb'
  unfold lx at h
  simp only at *
  have one : ∀ {x y : Int}, (if x = c then some y else if y = c then some x else none) = some b → (x = c ∧ y = b) ∨ (y = c ∧ x = b) := fun {x y} k => by
    by_cases e1 : x = c
    · rw [if_pos e1] at k; exact .inl ⟨e1, Option.some.inj k⟩
    · rw [if_neg e1] at k
      by_cases e2 : y = c
      · rw [if_pos e2] at k; exact .inr ⟨e2, Option.some.inj k⟩
      · rw [if_neg e2] at k; cases k
  subst e
  have k1 := one hb
  have k2 := one hb'
  omega
theorem due_mem (c k : Int) : k ∈ due n ts c ↔ (c, k) ∈ ts ∨ (k, c) ∈ ts := by
  unfold due
  rw [List.mem_map]
  constructor
  · rintro ⟨j, hj, rfl⟩
    have := of_decide_eq_true (List.mem_filter.mp hj).2
    split at this
    · rename_i h
      rw [if_neg (by omega)] at this
      exact .inl this
    · rename_i h
      by_cases e : c > (j : Int)
      · rw [if_pos e] at this
        exact .inr this
      · rw [if_neg e] at this
        have := (G.rng _ this).2.1
        simp only at this
        omega
  · intro h
    have hk : 0 ≤ k ∧ k < n ∧ ((if c < k then c else k, if c > k then c else k) ∈ ts) := by
      rcases h with h | h
      · have := G.rng _ h
        simp only at this
        rw [if_pos (by omega), if_neg (by omega)]
        exact ⟨by omega, by omega, h⟩
      · have := G.rng _ h
        simp only at this
        rw [if_neg (by omega), if_pos (by omega)]
        exact ⟨by omega, by omega, h⟩
    refine ⟨k.toNat, List.mem_filter.mpr ⟨List.mem_range.mpr (by omega), ?_⟩, by omega⟩
    rw [show ((k.toNat : Nat) : Int) = k by omega]
    exact decide_eq_true hk.2.2
theorem due_rise (c : Int) : (due n ts c).Pairwise (· < ·) := by
  unfold due
  rw [List.pairwise_map]
  exact ((List.pairwise_lt_range).filter _).imp fun h => by omega
theorem srt_adj (c : Int) : srtI (adj ts c) = due n ts c := by
  refine risingI (srtI_lt (adj_nodup G c)) (due_rise G c) fun k => ?_
  rw [(srtI_perm _).mem_iff, adj_mem G, due_mem G]
end
def rowU (ns : List Int) : List U := (ns.map .int).map .d
theorem rowU_len (ns : List Int) : (rowU ns).length = ns.length := by simp [rowU]
section
variable {n : Int} {ts : List (Int × Int)} (G : Good n ts)
include G
theorem p_beside_of : phi_beside_of [.d (webD n ts)] = .ok (.own (tab n.toNat fun i => rowU (due n ts (i : Nat)))) [.d (webD n ts)] := by
  have hb : big62 n = true := big62_of (by have := G.n4; omega) (by have := G.n12; omega)
  have hl : (rngU 0 n.toNat).length ≤ 1000000 := rngU_lenle (by have := G.n12; omega)
  simp only [phi_beside_of, m_beside_of, evs, evl, evx, Bool.not_false, Bool.not_true, decide_true, decide_false, if_true, if_false, List.nil_append, List.cons_append, List.map_nil, List.map_cons, Int.toNat_natCast, Int.zero_add, List.length_cons, List.length_nil, Nat.reduceAdd, Int.cast_ofNat_Int, Int.reduceLT, Int.reduceLE, Int.reduceEq, Int.reduceSub, Int.reduceAdd, Int.reduceMul, Bool.false_eq_true, Int.reduceToNat, Nat.reduceLT, Nat.reduceLeDiff, Int.reduceNeg, webD, hb]
  rw [lcK_ hl, rngU_map, loopC_mapU _ (fun _ => .own []) (List.range n.toNat)]
  · simp only [evs, evl, evx, Bool.not_false, Bool.not_true, decide_true, decide_false, if_true, if_false, List.nil_append, List.cons_append, List.map_nil, List.map_cons, Int.toNat_natCast, Int.zero_add, List.length_cons, List.length_nil, Nat.reduceAdd, Int.cast_ofNat_Int, Int.reduceLT, Int.reduceLE, Int.reduceEq, Int.reduceSub, Int.reduceAdd, Int.reduceMul, Bool.false_eq_true, Int.reduceToNat, Nat.reduceLT, Nat.reduceLeDiff, Int.reduceNeg, List.map_map]
    obtain ⟨ς', e, r, x2, x3, hς, hr⟩ := loopF_map (g := gT 2 (gsC (gN 2) (gsC (gN 3) gsN)))
      (body := mSeq (mExpr (mMut mkAppend (pI (pN 1) (mVar 2)) (mCons (mVar 3) mNil))) (mExpr (mMut mkAppend (pI (pN 1) (mVar 3)) (mCons (mVar 2) mNil)))) ts (U.d ∘ pd)
      (fun pre ς => ∃ (r : Nat → List U) (x2 x3 : Option U), ς = [some (.d (webD n ts)), some (.own (tab n.toNat r)), x2, x3, none, none] ∧ ∀ i, i < n.toNat → r i = rowU (adj pre (i : Nat)))
      (ς := [some (.d (webD n ts)), some (.own ((List.range n.toNat).map fun _ => .own [])), none, none, none, none])
      ⟨fun _ => [], none, none, rfl, fun i _ => rfl⟩ (by
        rintro pre p post hp ς ⟨r, x2, x3, rfl, hr⟩
        obtain ⟨h1, h2, h3⟩ := G.rng p (by rw [hp]; simp)
        have hlen : pre.length ≤ 200 := by
          have := G.len
          rw [hp] at this
          simp at this
          omega
        have hn : ((n.toNat : Nat) : Int) = n := by have := G.n4; omega
        have i1 : p.1.toNat < n.toNat := by omega
        have i2 : p.2.toNat < n.toNat := by omega
        have a1 : ∀ q : Nat → List U, ixN (tab n.toNat q).length p.1 = some p.1.toNat := fun q => ixN_tab h1 (by omega)
        have a2 : ∀ q : Nat → List U, ixN (tab n.toNat q).length p.2 = some p.2.toNat := fun q => ixN_tab (by omega) (by omega)
        have b1 : ∀ q : Nat → List U, (tab n.toNat q)[p.1.toNat]? = some (.own (q p.1.toNat)) := fun q => tab_get q i1
        have b2 : ∀ q : Nat → List U, (tab n.toNat q)[p.2.toNat]? = some (.own (q p.2.toNat)) := fun q => tab_get q i2
        have n12 : ¬ p.2.toNat = p.1.toNat := by omega
        have c1 : (r p.1.toNat).length < 1000000 := by
          rw [hr _ i1, rowU_len]
          have := adj_len pre (p.1.toNat : Nat)
          omega
        have c2 : (r p.2.toNat).length < 1000000 := by
          rw [hr _ i2, rowU_len]
          have := adj_len pre (p.2.toNat : Nat)
          omega
        have k1 : mkAppend (.own (r p.1.toNat)) [.d (.int p.2)] = some (.d .none, .own (r p.1.toNat ++ [.d (.int p.2)])) := mkAppend_ c1
        have k2 : mkAppend (.own (r p.2.toNat)) [.d (.int p.1)] = some (.d .none, .own (r p.2.toNat ++ [.d (.int p.1)])) := mkAppend_ c2
        refine ⟨[some (.d (webD n ts)), some (.own (tab n.toNat fun i => if i = p.2.toNat then r p.2.toNat ++ [.d (.int p.1)] else if i = p.1.toNat then r p.1.toNat ++ [.d (.int p.2)] else r i)), some (.d (.int p.1)), some (.d (.int p.2)), none, none], ?_, _, _, _, rfl, ?_⟩
        · simp only [evs, evl, evx, Bool.not_false, Bool.not_true, decide_true, decide_false, if_true, if_false, List.nil_append, List.cons_append, List.map_nil, List.map_cons, Int.toNat_natCast, Int.zero_add, List.length_cons, List.length_nil, Nat.reduceAdd, Int.cast_ofNat_Int, Int.reduceLT, Int.reduceLE, Int.reduceEq, Int.reduceSub, Int.reduceAdd, Int.reduceMul, Bool.false_eq_true, Int.reduceToNat, Nat.reduceLT, Nat.reduceLeDiff, Int.reduceNeg, Function.comp_apply, pd, a1, b1, k1, tab_set]
          simp only [evs, evl, evx, Bool.not_false, Bool.not_true, decide_true, decide_false, if_true, if_false, List.nil_append, List.cons_append, List.map_nil, List.map_cons, Int.toNat_natCast, Int.zero_add, List.length_cons, List.length_nil, Nat.reduceAdd, Int.cast_ofNat_Int, Int.reduceLT, Int.reduceLE, Int.reduceEq, Int.reduceSub, Int.reduceAdd, Int.reduceMul, Bool.false_eq_true, Int.reduceToNat, Nat.reduceLT, Nat.reduceLeDiff, Int.reduceNeg, a2, b2, n12, k2, tab_set]
        · intro i hi
          rw [adj_snoc]
          unfold rowU
          rw [List.map_append, List.map_append]
          have hri := hr i hi
          unfold rowU at hri
          unfold adj1
          by_cases e2 : i = p.2.toNat
          · rw [if_pos e2, if_neg (by omega), if_pos (by omega), ← e2, hri]
            rfl
          · rw [if_neg e2]
            by_cases e1 : i = p.1.toNat
            · rw [if_pos e1, if_pos (by omega), ← e1, hri]
              rfl
            · rw [if_neg e1, if_neg (by omega), if_neg (by omega), hri]
              simp)
    have e' := e
    simp only [webD] at e'
    rw [e', hς]
    rw [tab_congr hr]
    simp only [evs, evl, evx, Bool.not_false, Bool.not_true, decide_true, decide_false, if_true, if_false, List.nil_append, List.cons_append, List.map_nil, List.map_cons, Int.toNat_natCast, Int.zero_add, List.length_cons, List.length_nil, Nat.reduceAdd, Int.cast_ofNat_Int, Int.reduceLT, Int.reduceLE, Int.reduceEq, Int.reduceSub, Int.reduceAdd, Int.reduceMul, Bool.false_eq_true, Int.reduceToNat, Nat.reduceLT, Nat.reduceLeDiff, Int.reduceNeg, webD, tab, rowU, toDs_own]
    rw [lcK_ (by simp only [List.length_map, List.length_range]; have := G.n12; omega), List.map_map, loopC_mapU _ (fun i : Nat => .own (rowU (due n ts (i : Nat)))) (List.range n.toNat)]
    · simp only [evs, evl, evx, Bool.not_false, Bool.not_true, decide_true, decide_false, if_true, if_false, List.nil_append, List.cons_append, List.map_nil, List.map_cons, Int.toNat_natCast, Int.zero_add, List.length_cons, List.length_nil, Nat.reduceAdd, Int.cast_ofNat_Int, Int.reduceLT, Int.reduceLE, Int.reduceEq, Int.reduceSub, Int.reduceAdd, Int.reduceMul, Bool.false_eq_true, Int.reduceToNat, Nat.reduceLT, Nat.reduceLeDiff, Int.reduceNeg]
      rfl
    · intro i hi
      simp only [evs, evl, evx, Bool.not_false, Bool.not_true, decide_true, decide_false, if_true, if_false, List.nil_append, List.cons_append, List.map_nil, List.map_cons, Int.toNat_natCast, Int.zero_add, List.length_cons, List.length_nil, Nat.reduceAdd, Int.cast_ofNat_Int, Int.reduceLT, Int.reduceLE, Int.reduceEq, Int.reduceSub, Int.reduceAdd, Int.reduceMul, Bool.false_eq_true, Int.reduceToNat, Nat.reduceLT, Nat.reduceLeDiff, Int.reduceNeg, Function.comp_apply, srtK_ (srtOk_ints _), sortD_ints, srt_adj G]
      rfl
  · intro i hi
    simp only [evs, evl, evx, Bool.not_false, Bool.not_true, decide_true, decide_false, if_true, if_false, List.nil_append, List.cons_append, List.map_nil, List.map_cons, Int.toNat_natCast, Int.zero_add, List.length_cons, List.length_nil, Nat.reduceAdd, Int.cast_ofNat_Int, Int.reduceLT, Int.reduceLE, Int.reduceEq, Int.reduceSub, Int.reduceAdd, Int.reduceMul, Bool.false_eq_true, Int.reduceToNat, Nat.reduceLT, Nat.reduceLeDiff, Int.reduceNeg]
end
section
variable {n : Int} {ts : List (Int × Int)} (G : Good n ts)
include G
theorem p_neighbours {c : Int} (h : 0 ≤ c) (h2 : c < n) : phi_neighbours [.d (webD n ts), .d (.int c)] = .ok (.own (rowU (due n ts c))) [.d (webD n ts), .d (.int c)] := by
  have e : atI (tab n.toNat fun i => rowU (due n ts (i : Nat))) c = some (.own (rowU (due n ts c))) := by
    rw [atI_tab h (by have := G.n4; omega)]
    show some (U.own (rowU (due n ts ((c.toNat : Nat) : Int)))) = _
    rw [show ((c.toNat : Nat) : Int) = c by omega]
  simp only [phi_neighbours, m_neighbours, evs, evl, evx, Bool.not_false, Bool.not_true, decide_true, decide_false, if_true, if_false, List.nil_append, List.cons_append, List.map_nil, List.map_cons, Int.toNat_natCast, Int.zero_add, List.length_cons, List.length_nil, Nat.reduceAdd, Int.cast_ofNat_Int, Int.reduceLT, Int.reduceLE, Int.reduceEq, Int.reduceSub, Int.reduceAdd, Int.reduceMul, Bool.false_eq_true, Int.reduceToNat, Nat.reduceLT, Nat.reduceLeDiff, Int.reduceNeg, p_want_web G, p_beside_of G, p_want_corner h h2, e]
  rfl
theorem p_degree {c : Int} (h : 0 ≤ c) (h2 : c < n) : phi_degree [.d (webD n ts), .d (.int c)] = .ok (.d (.int ((due n ts c).length : Nat))) [.d (webD n ts), .d (.int c)] := by
  simp only [phi_degree, m_degree, evs, evl, evx, Bool.not_false, Bool.not_true, decide_true, decide_false, if_true, if_false, List.nil_append, List.cons_append, List.map_nil, List.map_cons, Int.toNat_natCast, Int.zero_add, List.length_cons, List.length_nil, Nat.reduceAdd, Int.cast_ofNat_Int, Int.reduceLT, Int.reduceLE, Int.reduceEq, Int.reduceSub, Int.reduceAdd, Int.reduceMul, Bool.false_eq_true, Int.reduceToNat, Nat.reduceLT, Nat.reduceLeDiff, Int.reduceNeg, p_neighbours G h h2, rowU_len]
  rfl
theorem p_is_tied {a b : Int} (h : 0 ≤ a) (h2 : a < n) (h3 : 0 ≤ b) (h4 : b < n) : phi_is_tied [.d (webD n ts), .d (.int a), .d (.int b)] = .ok (.d (.bool (decide ((if b < a then b else a, if b > a then b else a) ∈ ts)))) [.d (webD n ts), .d (.int a), .d (.int b)] := by
  simp only [phi_is_tied, m_is_tied, evs, evl, evx, Bool.not_false, Bool.not_true, decide_true, decide_false, if_true, if_false, List.nil_append, List.cons_append, List.map_nil, List.map_cons, Int.toNat_natCast, Int.zero_add, List.length_cons, List.length_nil, Nat.reduceAdd, Int.cast_ofNat_Int, Int.reduceLT, Int.reduceLE, Int.reduceEq, Int.reduceSub, Int.reduceAdd, Int.reduceMul, Bool.false_eq_true, Int.reduceToNat, Nat.reduceLT, Nat.reduceLeDiff, Int.reduceNeg, p_want_web G, p_want_corner h h2, p_want_corner h3 h4, p_tie_of, fIn_pd]
  simp only [webD]
  simp only [evs, evl, evx, Bool.not_false, Bool.not_true, decide_true, decide_false, if_true, if_false, List.nil_append, List.cons_append, List.map_nil, List.map_cons, Int.toNat_natCast, Int.zero_add, List.length_cons, List.length_nil, Nat.reduceAdd, Int.cast_ofNat_Int, Int.reduceLT, Int.reduceLE, Int.reduceEq, Int.reduceSub, Int.reduceAdd, Int.reduceMul, Bool.false_eq_true, Int.reduceToNat, Nat.reduceLT, Nat.reduceLeDiff, Int.reduceNeg, fIn_pd]
  rfl
theorem p_tie_position {a b : Int} {j : Nat} (h : 0 ≤ a) (h2 : a < n) (h3 : 0 ≤ b) (h4 : b < n) (hj : ts[j]? = some (if b < a then b else a, if b > a then b else a)) : phi_tie_position [.d (webD n ts), .d (.int a), .d (.int b)] = .ok (.d (.int (j : Nat))) [.d (webD n ts), .d (.int a), .d (.int b)] := by
  have hm : (if b < a then b else a, if b > a then b else a) ∈ ts := List.mem_of_getElem? hj
  have hp : SeqAt.dataPlace (ts.map pd) (pd (if b < a then b else a, if b > a then b else a)) = some j := place_some (xs := ts) hj fun m hm e => by
    have h1 := List.getElem?_eq_some_iff.mp hj
    have h2 := List.getElem?_eq_some_iff.mp e
    obtain ⟨l1, e1⟩ := h1
    obtain ⟨l2, e2⟩ := h2
    have := List.pairwise_iff_getElem.mp G.srt m j l2 l1 hm
    rw [e1, e2] at this
    unfold lx at this
    omega
  simp only [phi_tie_position, m_tie_position, evs, evl, evx, Bool.not_false, Bool.not_true, decide_true, decide_false, if_true, if_false, List.nil_append, List.cons_append, List.map_nil, List.map_cons, Int.toNat_natCast, Int.zero_add, List.length_cons, List.length_nil, Nat.reduceAdd, Int.cast_ofNat_Int, Int.reduceLT, Int.reduceLE, Int.reduceEq, Int.reduceSub, Int.reduceAdd, Int.reduceMul, Bool.false_eq_true, Int.reduceToNat, Nat.reduceLT, Nat.reduceLeDiff, Int.reduceNeg, p_is_tied G h h2 h3 h4, p_tie_of, hm]
  simp only [webD]
  simp only [evs, evl, evx, Bool.not_false, Bool.not_true, decide_true, decide_false, if_true, if_false, List.nil_append, List.cons_append, List.map_nil, List.map_cons, Int.toNat_natCast, Int.zero_add, List.length_cons, List.length_nil, Nat.reduceAdd, Int.cast_ofNat_Int, Int.reduceLT, Int.reduceLE, Int.reduceEq, Int.reduceSub, Int.reduceAdd, Int.reduceMul, Bool.false_eq_true, Int.reduceToNat, Nat.reduceLT, Nat.reduceLeDiff, Int.reduceNeg, p_tie_of, fdE_it (lev_pd _) hp]
  rfl
end
def cl (p q : Int × Int) : Prop := p.2 < q.2 ∨ (p.2 = q.2 ∧ p.1 < q.1)
theorem cl_nodup {ts : List (Int × Int)} (h : ts.Pairwise cl) : ts.Nodup := h.imp fun {p q} k e => by
  subst e
  unfold cl at k
  omega
theorem good_srt {n : Int} {ts : List (Int × Int)} (h4 : 4 ≤ n) (h12 : n ≤ 12) (hr : ∀ p ∈ ts, 0 ≤ p.1 ∧ p.1 < p.2 ∧ p.2 < n) (hc : ts.Pairwise cl) (hl : ts.length ≤ 200) : Good n (srtP ts) :=
  ⟨h4, h12, fun p hp => hr p ((srtP_perm ts).mem_iff.mp hp), srtP_lt (cl_nodup hc), by rw [(srtP_perm ts).length_eq]; exact hl⟩
end PG
end
section
set_option autoImplicit false
set_option linter.all false
namespace Rt
/-! ratios in lowest terms -/
def bare (n u : Int) : Int × Int := if u < 0 then (n.fdiv (-(Int.gcd n u : Int)), u.fdiv (-(Int.gcd n u : Int))) else (n / (Int.gcd n u : Int), u / (Int.gcd n u : Int))
def IsR (p : Int × Int) : Prop := 1 ≤ p.2 ∧ Int.gcd p.1 p.2 = 1
theorem gcd_pos {n u : Int} (h : u ≠ 0) : 0 < Int.gcd n u := Int.gcd_pos_of_ne_zero_right _ h
theorem fdiv_neg_of_dvd {a g : Int} (hg : 0 < g) (h : g ∣ a) : a.fdiv (-g) = -(a / g) := by
  obtain ⟨k, rfl⟩ := h
  rw [Int.mul_ediv_cancel_left _ (by omega)]
  have e : g * k = (-g) * (-k) := by grind
  rw [e, Int.mul_fdiv_cancel_left _ (by omega)]
theorem bare_spec {n u : Int} (h : u ≠ 0) : ∃ s : Int, (s = 1 ∨ s = -1) ∧ 0 < s * u ∧ bare n u = (s * (n / (Int.gcd n u : Int)), s * (u / (Int.gcd n u : Int))) := by
  have hg : (0 : Int) < (Int.gcd n u : Int) := by have := gcd_pos (n := n) h; omega
  have d1 : (Int.gcd n u : Int) ∣ n := Int.gcd_dvd_left ..
  have d2 : (Int.gcd n u : Int) ∣ u := Int.gcd_dvd_right ..
  unfold bare
  by_cases hu : u < 0
  · refine ⟨-1, .inr rfl, by omega, ?_⟩
    rw [if_pos hu, fdiv_neg_of_dvd hg d1, fdiv_neg_of_dvd hg d2]
    simp
  · refine ⟨1, .inl rfl, by omega, ?_⟩
    rw [if_neg hu]; simp
theorem bare_cross {n u : Int} (h : u ≠ 0) : (bare n u).1 * u = n * (bare n u).2 := by
  obtain ⟨s, hs, hp, e⟩ := bare_spec (n := n) h
  rw [e]
  have d1 : (Int.gcd n u : Int) ∣ n := Int.gcd_dvd_left ..
  have d2 : (Int.gcd n u : Int) ∣ u := Int.gcd_dvd_right ..
  have hg : (0 : Int) < (Int.gcd n u : Int) := by have := gcd_pos (n := n) h; omega
  generalize (Int.gcd n u : Int) = g at d1 d2 hg
  obtain ⟨a, rfl⟩ := d1
  obtain ⟨b, rfl⟩ := d2
  simp only [Int.mul_ediv_cancel_left _ (show g ≠ 0 by omega)]
  grind
theorem bare_isR {n u : Int} (h : u ≠ 0) : IsR (bare n u) := by
  obtain ⟨s, hs, hp, e⟩ := bare_spec (n := n) h
  have hg := gcd_pos (n := n) h
  have d2 : (Int.gcd n u : Int) ∣ u := Int.gcd_dvd_right ..
  rw [e]
  have e1 : Int.gcd (n / (Int.gcd n u : Int)) (u / (Int.gcd n u : Int)) = 1 := by
    rw [Int.gcd_ediv (Int.gcd_dvd_left ..) (Int.gcd_dvd_right ..)]
    simp
    exact Nat.div_self hg
  refine ⟨?_, ?_⟩
  · show 1 ≤ s * (u / (Int.gcd n u : Int))
    have hg' : (0 : Int) < (Int.gcd n u : Int) := by omega
    generalize (Int.gcd n u : Int) = g at d2 hg'
    obtain ⟨b, rfl⟩ := d2
    rw [Int.mul_ediv_cancel_left _ (show g ≠ 0 by omega)]
    have : 0 < g * (s * b) := by
      have e : g * (s * b) = s * (g * b) := by grind
      rw [e]; exact hp
    have := Int.pos_of_mul_pos_right this (by omega)
    omega
  · show Int.gcd (s * _) (s * _) = 1
    rcases hs with rfl | rfl
    · simpa using e1
    · simpa using e1
theorem cop_dvd {a b c : Int} (h : b ∣ a * c) (g : Int.gcd a b = 1) : b ∣ c := by
  have h1 : b.natAbs ∣ a.natAbs * c.natAbs := by rw [← Int.natAbs_mul]; exact Int.natAbs_dvd_natAbs.mpr h
  have h2 : Nat.Coprime b.natAbs a.natAbs := by rw [Nat.coprime_comm]; exact g
  exact Int.natAbs_dvd_natAbs.mp (h2.dvd_of_dvd_mul_left h1)
theorem uniq {p q : Int × Int} (hp : IsR p) (hq : IsR q) (h : p.1 * q.2 = q.1 * p.2) : p = q := by
  obtain ⟨a, b⟩ := p
  obtain ⟨c, d⟩ := q
  obtain ⟨h1, h2⟩ := hp
  obtain ⟨h3, h4⟩ := hq
  simp only at h1 h2 h3 h4 h
  have k1 : b ∣ d := by
    have : b ∣ a * d := ⟨c, by rw [h]; exact Int.mul_comm ..⟩
    exact cop_dvd this h2
  have k2 : d ∣ b := by
    have : d ∣ c * b := ⟨a, by rw [← h]; exact Int.mul_comm ..⟩
    exact cop_dvd this h4
  have e : b = d := Int.dvd_antisymm (by omega) (by omega) k1 k2
  subst e
  have : a = c := Int.eq_of_mul_eq_mul_right (by omega) h
  subst this
  rfl
theorem bare_eq {n u m v : Int} (hu : u ≠ 0) (hv : v ≠ 0) (h : n * v = m * u) : bare n u = bare m v := by
  refine uniq (bare_isR hu) (bare_isR hv) ?_
  have h1 := bare_cross (n := n) hu
  have h2 := bare_cross (n := m) hv
  have : u * v * ((bare n u).1 * (bare m v).2) = u * v * ((bare m v).1 * (bare n u).2) := by grind
  exact Int.eq_of_mul_eq_mul_left (by
    intro z
    rcases Int.mul_eq_zero.mp z with z | z
    · exact hu z
    · exact hv z) this
theorem bare_self {p : Int × Int} (h : IsR p) : bare p.1 p.2 = p := by
  have hu : p.2 ≠ 0 := by have := h.1; omega
  exact uniq (bare_isR hu) h (bare_cross hu)
theorem isR_ne {p : Int × Int} (h : IsR p) : p.2 ≠ 0 := by have := h.1; omega
end Rt
end
section
set_option autoImplicit false
set_option Elab.async false
set_option linter.all false
set_option maxRecDepth 100000
namespace PG
open PySem L2 PySem.W Vm
/-! ratios -/
theorem lg9 {i : Int} (h : i.natAbs < 2 ^ 400) : i.natAbs.log2 < 9000 := by
  by_cases z : i.natAbs = 0
  · rw [z]; decide
  · have := (Nat.log2_lt z).mpr h
    omega
theorem p_bare_ratio {n u : Int} (hu : u ≠ 0) (hb : u.natAbs < 2 ^ 400) : phi_bare_ratio [.d (.int n), .d (.int u)] = .ok (.d (pd (Rt.bare n u))) [.d (.int n), .d (.int u)] := by
  have hg : (0 : Int) < ((n.natAbs.gcd u.natAbs : Nat) : Int) := by
    have := Nat.gcd_pos_of_pos_right n.natAbs (show 0 < u.natAbs by omega)
    omega
  have hl : ((n.natAbs.gcd u.natAbs : Nat) : Int).natAbs.log2 < 9000 := lg9 (by
    have := Nat.gcd_le_right n.natAbs (show 0 < u.natAbs by omega)
    rw [Int.natAbs_natCast]; omega)
  by_cases h : u < 0
  · have hg2 : -((n.natAbs.gcd u.natAbs : Nat) : Int) < 0 := by omega
    have hl2 : (-((n.natAbs.gcd u.natAbs : Nat) : Int)).natAbs.log2 < 9000 := by rw [Int.natAbs_neg]; exact hl
    have e : Rt.bare n u = (n.fdiv (-((n.natAbs.gcd u.natAbs : Nat) : Int)), u.fdiv (-((n.natAbs.gcd u.natAbs : Nat) : Int))) := if_pos h
    simp only [phi_bare_ratio, m_bare_ratio, evs, evl, evx, Bool.not_false, Bool.not_true, decide_true, decide_false, if_true, if_false, List.nil_append, List.cons_append, List.map_nil, List.map_cons, Int.toNat_natCast, Int.zero_add, List.length_cons, List.length_nil, Nat.reduceAdd, Int.cast_ofNat_Int, Int.reduceLT, Int.reduceLE, Int.reduceEq, Int.reduceSub, Int.reduceAdd, Int.reduceMul, Bool.false_eq_true, Int.reduceToNat, Int.reducePow, Int.reduceMod, Int.reduceDiv, Nat.reduceMul, Nat.reduceSub, Nat.reduceLT, Nat.reduceLeDiff, Int.reduceNeg, h, hg2, hl2, e, pd]
    rfl
  · have e : Rt.bare n u = (n / ((n.natAbs.gcd u.natAbs : Nat) : Int), u / ((n.natAbs.gcd u.natAbs : Nat) : Int)) := if_neg h
    simp only [phi_bare_ratio, m_bare_ratio, evs, evl, evx, Bool.not_false, Bool.not_true, decide_true, decide_false, if_true, if_false, List.nil_append, List.cons_append, List.map_nil, List.map_cons, Int.toNat_natCast, Int.zero_add, List.length_cons, List.length_nil, Nat.reduceAdd, Int.cast_ofNat_Int, Int.reduceLT, Int.reduceLE, Int.reduceEq, Int.reduceSub, Int.reduceAdd, Int.reduceMul, Bool.false_eq_true, Int.reduceToNat, Int.reducePow, Int.reduceMod, Int.reduceDiv, Nat.reduceMul, Nat.reduceSub, Nat.reduceLT, Nat.reduceLeDiff, Int.reduceNeg, h, hg, hl, e, pd]
    rfl
/-- a ratio's bounds -/
structure Rb (p : Int × Int) (k : Nat) : Prop where
  r : Rt.IsR p
  n : p.1.natAbs < 2 ^ k
  u : p.2.natAbs < 2 ^ k
theorem Rb.mono {p : Int × Int} {k l : Nat} (h : Rb p k) (hl : k ≤ l) : Rb p l := ⟨h.r, Nat.lt_of_lt_of_le h.n (Nat.pow_le_pow_right (by omega) hl), Nat.lt_of_lt_of_le h.u (Nat.pow_le_pow_right (by omega) hl)⟩
theorem bd_mono {a : Int} {k l : Nat} (h : a.natAbs < 2 ^ k) (hl : k ≤ l) : a.natAbs < 2 ^ l := Nat.lt_of_lt_of_le h (Nat.pow_le_pow_right (by omega) hl)
theorem bd_mul {a b : Int} {k l : Nat} (ha : a.natAbs < 2 ^ k) (hb : b.natAbs < 2 ^ l) : (a * b).natAbs < 2 ^ (k + l) := by
  rw [Int.natAbs_mul, Nat.pow_add]
  exact Nat.mul_lt_mul'' ha hb
theorem bd_add {a b : Int} {k : Nat} (ha : a.natAbs < 2 ^ k) (hb : b.natAbs < 2 ^ k) : (a + b).natAbs < 2 ^ (k + 1) := by
  rw [Nat.pow_succ]
  have := Int.natAbs_add_le a b
  omega
theorem bd_sub {a b : Int} {k : Nat} (ha : a.natAbs < 2 ^ k) (hb : b.natAbs < 2 ^ k) : (a - b).natAbs < 2 ^ (k + 1) := by
  rw [Nat.pow_succ]
  have := Int.natAbs_sub_le a b
  omega
theorem bd_neg {a : Int} {k : Nat} (ha : a.natAbs < 2 ^ k) : (-a).natAbs < 2 ^ k := by rw [Int.natAbs_neg]; exact ha
theorem bd_of {a : Int} {k : Nat} (h1 : -(2 ^ k : Int) < a) (h2 : a < (2 ^ k : Int)) : a.natAbs < 2 ^ k := by
  have e : ((2 ^ k : Nat) : Int) = (2 : Int) ^ k := by norm_cast
  omega
theorem bd_dvd {a b : Int} {k : Nat} (h : a ∣ b) (hb : b ≠ 0) (hk : b.natAbs < 2 ^ k) : a.natAbs < 2 ^ k := Nat.lt_of_le_of_lt (Nat.le_of_dvd (by omega) (Int.natAbs_dvd_natAbs.mpr h)) hk
theorem sm_of {a : Int} {k : Nat} (h : a.natAbs < 2 ^ k) (hk : k ≤ 400) : Sm a := Sm.of (bd_mono h hk)
theorem bare_n {n u : Int} {k : Nat} (hu : u ≠ 0) (hn : n.natAbs < 2 ^ k) : (Rt.bare n u).1.natAbs < 2 ^ k := by
  obtain ⟨s, hs, hp, e⟩ := Rt.bare_spec (n := n) hu
  rw [e]
  show (s * (n / _)).natAbs < _
  have h1 : (s * (n / (Int.gcd n u : Int))).natAbs = (n / (Int.gcd n u : Int)).natAbs := by
    rw [Int.natAbs_mul]; rcases hs with rfl | rfl <;> simp
  rw [h1]
  exact Nat.lt_of_le_of_lt (by rw [Int.natAbs_ediv_of_dvd (Int.gcd_dvd_left ..)]; exact Nat.div_le_self ..) hn
theorem bare_u {n u : Int} {k : Nat} (hu : u ≠ 0) (hn : u.natAbs < 2 ^ k) : (Rt.bare n u).2.natAbs < 2 ^ k := by
  obtain ⟨s, hs, hp, e⟩ := Rt.bare_spec (n := n) hu
  rw [e]
  show (s * (u / _)).natAbs < _
  have h1 : (s * (u / (Int.gcd n u : Int))).natAbs = (u / (Int.gcd n u : Int)).natAbs := by
    rw [Int.natAbs_mul]; rcases hs with rfl | rfl <;> simp
  rw [h1]
  exact Nat.lt_of_le_of_lt (by rw [Int.natAbs_ediv_of_dvd (Int.gcd_dvd_right ..)]; exact Nat.div_le_self ..) hn
theorem bare_rb {n u : Int} {k : Nat} (hu : u ≠ 0) (hn : n.natAbs < 2 ^ k) (h : u.natAbs < 2 ^ k) : Rb (Rt.bare n u) k := ⟨Rt.bare_isR hu, bare_n hu hn, bare_u hu h⟩
theorem p_is_ratio {p : Int × Int} (h : Rt.IsR p) : phi_is_ratio [.d (pd p)] = .ok (.d (.bool true)) [.d (pd p)] := by
  obtain ⟨a, b⟩ := p
  have h1 : 1 ≤ b := h.1
  have h2 : ((a.natAbs.gcd b.natAbs : Nat) : Int) = 1 := by
    have : Int.gcd a b = 1 := h.2
    have e : a.natAbs.gcd b.natAbs = 1 := this
    omega
  simp only [phi_is_ratio, m_is_ratio, evs, evl, evx, Bool.not_false, Bool.not_true, decide_true, decide_false, if_true, if_false, List.nil_append, List.cons_append, List.map_nil, List.map_cons, Int.toNat_natCast, Int.zero_add, List.length_cons, List.length_nil, Nat.reduceAdd, Int.cast_ofNat_Int, Int.reduceLT, Int.reduceLE, Int.reduceEq, Int.reduceSub, Int.reduceAdd, Int.reduceMul, Bool.false_eq_true, Int.reduceToNat, Int.reducePow, Int.reduceMod, Int.reduceDiv, Nat.reduceMul, Nat.reduceSub, Nat.reduceLT, Nat.reduceLeDiff, Int.reduceNeg, pd, p_is_integer, h1, h2]
  rfl
theorem p_want_ratio {p : Int × Int} (h : Rt.IsR p) : phi_want_ratio [.d (pd p)] = .ok (.d (pd p)) [.d (pd p)] := by
  simp only [phi_want_ratio, m_want_ratio, evs, evl, evx, Bool.not_false, Bool.not_true, decide_true, decide_false, if_true, if_false, List.nil_append, List.cons_append, List.map_nil, List.map_cons, Int.toNat_natCast, Int.zero_add, List.length_cons, List.length_nil, Nat.reduceAdd, Int.cast_ofNat_Int, Int.reduceLT, Int.reduceLE, Int.reduceEq, Int.reduceSub, Int.reduceAdd, Int.reduceMul, Bool.false_eq_true, Int.reduceToNat, Int.reducePow, Int.reduceMod, Int.reduceDiv, Nat.reduceMul, Nat.reduceSub, Nat.reduceLT, Nat.reduceLeDiff, Int.reduceNeg, p_is_ratio h]
  rfl
def plus (p q : Int × Int) : Int × Int := Rt.bare (p.1 * q.2 + q.1 * p.2) (p.2 * q.2)
def less (p q : Int × Int) : Int × Int := Rt.bare (p.1 * q.2 - q.1 * p.2) (p.2 * q.2)
def times (p q : Int × Int) : Int × Int := Rt.bare (p.1 * q.1) (p.2 * q.2)
def over (p q : Int × Int) : Int × Int := Rt.bare (p.1 * q.2) (p.2 * q.1)
def comp (p q : Int × Int) : Int := (if 0 < p.1 * q.2 - q.1 * p.2 then 1 else 0) - (if p.1 * q.2 - q.1 * p.2 < 0 then 1 else 0)
section
variable {p q : Int × Int} {k : Nat}
theorem mul_ne {a b : Int} (ha : a ≠ 0) (hb : b ≠ 0) : a * b ≠ 0 := fun z => by
  rcases Int.mul_eq_zero.mp z with z | z
  · exact ha z
  · exact hb z
theorem p_plus_of (hp : Rb p k) (hq : Rb q k) (hk : k ≤ 199) : phi_plus_of [.d (pd p), .d (pd q)] = .ok (.d (pd (plus p q))) [.d (pd p), .d (pd q)] := by
  have a1 := sm_of hp.n (by omega)
  have a2 := sm_of hp.u (by omega)
  have a3 := sm_of hq.n (by omega)
  have a4 := sm_of hq.u (by omega)
  have hb := p_bare_ratio (n := p.1 * q.2 + q.1 * p.2) (mul_ne (Rt.isR_ne hp.r) (Rt.isR_ne hq.r)) (bd_mono (bd_mul hp.u hq.u) (by omega))
  simp only [phi_plus_of, m_plus_of, evs, evl, evx, Bool.not_false, Bool.not_true, decide_true, decide_false, if_true, if_false, List.nil_append, List.cons_append, List.map_nil, List.map_cons, Int.toNat_natCast, Int.zero_add, List.length_cons, List.length_nil, Nat.reduceAdd, Int.cast_ofNat_Int, Int.reduceLT, Int.reduceLE, Int.reduceEq, Int.reduceSub, Int.reduceAdd, Int.reduceMul, Bool.false_eq_true, Int.reduceToNat, Int.reducePow, Int.reduceMod, Int.reduceDiv, Nat.reduceMul, Nat.reduceSub, Nat.reduceLT, Nat.reduceLeDiff, Int.reduceNeg, pd, fMul_ a1 a4, fMul_ a3 a2, fMul_ a2 a4]
  simp only [pd] at hb
  simp only [evs, evl, evx, Bool.not_false, Bool.not_true, decide_true, decide_false, if_true, if_false, List.nil_append, List.cons_append, List.map_nil, List.map_cons, Int.toNat_natCast, Int.zero_add, List.length_cons, List.length_nil, Nat.reduceAdd, Int.cast_ofNat_Int, Int.reduceLT, Int.reduceLE, Int.reduceEq, Int.reduceSub, Int.reduceAdd, Int.reduceMul, Bool.false_eq_true, Int.reduceToNat, Int.reducePow, Int.reduceMod, Int.reduceDiv, Nat.reduceMul, Nat.reduceSub, Nat.reduceLT, Nat.reduceLeDiff, Int.reduceNeg, hb, plus]
  rfl
theorem p_less_of (hp : Rb p k) (hq : Rb q k) (hk : k ≤ 199) : phi_less_of [.d (pd p), .d (pd q)] = .ok (.d (pd (less p q))) [.d (pd p), .d (pd q)] := by
  have a1 := sm_of hp.n (by omega)
  have a2 := sm_of hp.u (by omega)
  have a3 := sm_of hq.n (by omega)
  have a4 := sm_of hq.u (by omega)
  have hb := p_bare_ratio (n := p.1 * q.2 - q.1 * p.2) (mul_ne (Rt.isR_ne hp.r) (Rt.isR_ne hq.r)) (bd_mono (bd_mul hp.u hq.u) (by omega))
  simp only [phi_less_of, m_less_of, evs, evl, evx, Bool.not_false, Bool.not_true, decide_true, decide_false, if_true, if_false, List.nil_append, List.cons_append, List.map_nil, List.map_cons, Int.toNat_natCast, Int.zero_add, List.length_cons, List.length_nil, Nat.reduceAdd, Int.cast_ofNat_Int, Int.reduceLT, Int.reduceLE, Int.reduceEq, Int.reduceSub, Int.reduceAdd, Int.reduceMul, Bool.false_eq_true, Int.reduceToNat, Int.reducePow, Int.reduceMod, Int.reduceDiv, Nat.reduceMul, Nat.reduceSub, Nat.reduceLT, Nat.reduceLeDiff, Int.reduceNeg, pd, fMul_ a1 a4, fMul_ a3 a2, fMul_ a2 a4]
  simp only [pd] at hb
  simp only [evs, evl, evx, Bool.not_false, Bool.not_true, decide_true, decide_false, if_true, if_false, List.nil_append, List.cons_append, List.map_nil, List.map_cons, Int.toNat_natCast, Int.zero_add, List.length_cons, List.length_nil, Nat.reduceAdd, Int.cast_ofNat_Int, Int.reduceLT, Int.reduceLE, Int.reduceEq, Int.reduceSub, Int.reduceAdd, Int.reduceMul, Bool.false_eq_true, Int.reduceToNat, Int.reducePow, Int.reduceMod, Int.reduceDiv, Nat.reduceMul, Nat.reduceSub, Nat.reduceLT, Nat.reduceLeDiff, Int.reduceNeg, hb, less]
  rfl
theorem p_times_of (hp : Rb p k) (hq : Rb q k) (hk : k ≤ 199) : phi_times_of [.d (pd p), .d (pd q)] = .ok (.d (pd (times p q))) [.d (pd p), .d (pd q)] := by
  have a1 := sm_of hp.n (by omega)
  have a2 := sm_of hp.u (by omega)
  have a3 := sm_of hq.n (by omega)
  have a4 := sm_of hq.u (by omega)
  have hb := p_bare_ratio (n := p.1 * q.1) (mul_ne (Rt.isR_ne hp.r) (Rt.isR_ne hq.r)) (bd_mono (bd_mul hp.u hq.u) (by omega))
  simp only [phi_times_of, m_times_of, evs, evl, evx, Bool.not_false, Bool.not_true, decide_true, decide_false, if_true, if_false, List.nil_append, List.cons_append, List.map_nil, List.map_cons, Int.toNat_natCast, Int.zero_add, List.length_cons, List.length_nil, Nat.reduceAdd, Int.cast_ofNat_Int, Int.reduceLT, Int.reduceLE, Int.reduceEq, Int.reduceSub, Int.reduceAdd, Int.reduceMul, Bool.false_eq_true, Int.reduceToNat, Int.reducePow, Int.reduceMod, Int.reduceDiv, Nat.reduceMul, Nat.reduceSub, Nat.reduceLT, Nat.reduceLeDiff, Int.reduceNeg, pd, fMul_ a1 a3, fMul_ a2 a4]
  simp only [pd] at hb
  simp only [evs, evl, evx, Bool.not_false, Bool.not_true, decide_true, decide_false, if_true, if_false, List.nil_append, List.cons_append, List.map_nil, List.map_cons, Int.toNat_natCast, Int.zero_add, List.length_cons, List.length_nil, Nat.reduceAdd, Int.cast_ofNat_Int, Int.reduceLT, Int.reduceLE, Int.reduceEq, Int.reduceSub, Int.reduceAdd, Int.reduceMul, Bool.false_eq_true, Int.reduceToNat, Int.reducePow, Int.reduceMod, Int.reduceDiv, Nat.reduceMul, Nat.reduceSub, Nat.reduceLT, Nat.reduceLeDiff, Int.reduceNeg, hb, times]
  rfl
theorem p_over_of (hp : Rb p k) (hq : Rb q k) (h0 : q.1 ≠ 0) (hk : k ≤ 199) : phi_over_of [.d (pd p), .d (pd q)] = .ok (.d (pd (over p q))) [.d (pd p), .d (pd q)] := by
  have a1 := sm_of hp.n (by omega)
  have a2 := sm_of hp.u (by omega)
  have a3 := sm_of hq.n (by omega)
  have a4 := sm_of hq.u (by omega)
  have hb := p_bare_ratio (n := p.1 * q.2) (mul_ne (Rt.isR_ne hp.r) h0) (bd_mono (bd_mul hp.u hq.n) (by omega))
  simp only [phi_over_of, m_over_of, evs, evl, evx, Bool.not_false, Bool.not_true, decide_true, decide_false, if_true, if_false, List.nil_append, List.cons_append, List.map_nil, List.map_cons, Int.toNat_natCast, Int.zero_add, List.length_cons, List.length_nil, Nat.reduceAdd, Int.cast_ofNat_Int, Int.reduceLT, Int.reduceLE, Int.reduceEq, Int.reduceSub, Int.reduceAdd, Int.reduceMul, Bool.false_eq_true, Int.reduceToNat, Int.reducePow, Int.reduceMod, Int.reduceDiv, Nat.reduceMul, Nat.reduceSub, Nat.reduceLT, Nat.reduceLeDiff, Int.reduceNeg, pd, fMul_ a1 a4, fMul_ a2 a3]
  simp only [pd] at hb
  simp only [evs, evl, evx, Bool.not_false, Bool.not_true, decide_true, decide_false, if_true, if_false, List.nil_append, List.cons_append, List.map_nil, List.map_cons, Int.toNat_natCast, Int.zero_add, List.length_cons, List.length_nil, Nat.reduceAdd, Int.cast_ofNat_Int, Int.reduceLT, Int.reduceLE, Int.reduceEq, Int.reduceSub, Int.reduceAdd, Int.reduceMul, Bool.false_eq_true, Int.reduceToNat, Int.reducePow, Int.reduceMod, Int.reduceDiv, Nat.reduceMul, Nat.reduceSub, Nat.reduceLT, Nat.reduceLeDiff, Int.reduceNeg, hb, over]
  rfl
theorem p_compared_of (hp : Rb p k) (hq : Rb q k) (hk : k ≤ 199) : phi_compared_of [.d (pd p), .d (pd q)] = .ok (.d (.int (comp p q))) [.d (pd p), .d (pd q)] := by
  have a1 := sm_of hp.n (by omega)
  have a2 := sm_of hp.u (by omega)
  have a3 := sm_of hq.n (by omega)
  have a4 := sm_of hq.u (by omega)
  simp only [phi_compared_of, m_compared_of, evs, evl, evx, Bool.not_false, Bool.not_true, decide_true, decide_false, if_true, if_false, List.nil_append, List.cons_append, List.map_nil, List.map_cons, Int.toNat_natCast, Int.zero_add, List.length_cons, List.length_nil, Nat.reduceAdd, Int.cast_ofNat_Int, Int.reduceLT, Int.reduceLE, Int.reduceEq, Int.reduceSub, Int.reduceAdd, Int.reduceMul, Bool.false_eq_true, Int.reduceToNat, Int.reducePow, Int.reduceMod, Int.reduceDiv, Nat.reduceMul, Nat.reduceSub, Nat.reduceLT, Nat.reduceLeDiff, Int.reduceNeg, pd, fMul_ a1 a4, fMul_ a3 a2, comp, decide_eq_true_eq, gt_iff_lt]
  rfl
theorem p_less_than (hp : Rb p k) (hq : Rb q k) (hk : k ≤ 199) : phi_less_than [.d (pd p), .d (pd q)] = .ok (.d (.bool (decide (p.1 * q.2 < q.1 * p.2)))) [.d (pd p), .d (pd q)] := by
  have a1 := sm_of hp.n (by omega)
  have a2 := sm_of hp.u (by omega)
  have a3 := sm_of hq.n (by omega)
  have a4 := sm_of hq.u (by omega)
  simp only [phi_less_than, m_less_than, evs, evl, evx, Bool.not_false, Bool.not_true, decide_true, decide_false, if_true, if_false, List.nil_append, List.cons_append, List.map_nil, List.map_cons, Int.toNat_natCast, Int.zero_add, List.length_cons, List.length_nil, Nat.reduceAdd, Int.cast_ofNat_Int, Int.reduceLT, Int.reduceLE, Int.reduceEq, Int.reduceSub, Int.reduceAdd, Int.reduceMul, Bool.false_eq_true, Int.reduceToNat, Int.reducePow, Int.reduceMod, Int.reduceDiv, Nat.reduceMul, Nat.reduceSub, Nat.reduceLT, Nat.reduceLeDiff, Int.reduceNeg, pd, fMul_ a1 a4, fMul_ a3 a2]
  rfl
theorem p_ratio_plus (hp : Rb p k) (hq : Rb q k) (hk : k ≤ 199) : phi_ratio_plus [.d (pd p), .d (pd q)] = .ok (.d (pd (plus p q))) [.d (pd p), .d (pd q)] := by
  simp only [phi_ratio_plus, m_ratio_plus, evs, evl, evx, Bool.not_false, Bool.not_true, decide_true, decide_false, if_true, if_false, List.nil_append, List.cons_append, List.map_nil, List.map_cons, Int.toNat_natCast, Int.zero_add, List.length_cons, List.length_nil, Nat.reduceAdd, Int.cast_ofNat_Int, Int.reduceLT, Int.reduceLE, Int.reduceEq, Int.reduceSub, Int.reduceAdd, Int.reduceMul, Bool.false_eq_true, Int.reduceToNat, Int.reducePow, Int.reduceMod, Int.reduceDiv, Nat.reduceMul, Nat.reduceSub, Nat.reduceLT, Nat.reduceLeDiff, Int.reduceNeg, p_want_ratio hp.r, p_want_ratio hq.r, p_plus_of hp hq hk]
  rfl
theorem p_ratio_minus (hp : Rb p k) (hq : Rb q k) (hk : k ≤ 199) : phi_ratio_minus [.d (pd p), .d (pd q)] = .ok (.d (pd (less p q))) [.d (pd p), .d (pd q)] := by
  simp only [phi_ratio_minus, m_ratio_minus, evs, evl, evx, Bool.not_false, Bool.not_true, decide_true, decide_false, if_true, if_false, List.nil_append, List.cons_append, List.map_nil, List.map_cons, Int.toNat_natCast, Int.zero_add, List.length_cons, List.length_nil, Nat.reduceAdd, Int.cast_ofNat_Int, Int.reduceLT, Int.reduceLE, Int.reduceEq, Int.reduceSub, Int.reduceAdd, Int.reduceMul, Bool.false_eq_true, Int.reduceToNat, Int.reducePow, Int.reduceMod, Int.reduceDiv, Nat.reduceMul, Nat.reduceSub, Nat.reduceLT, Nat.reduceLeDiff, Int.reduceNeg, p_want_ratio hp.r, p_want_ratio hq.r, p_less_of hp hq hk]
  rfl
theorem p_ratio_times (hp : Rb p k) (hq : Rb q k) (hk : k ≤ 199) : phi_ratio_times [.d (pd p), .d (pd q)] = .ok (.d (pd (times p q))) [.d (pd p), .d (pd q)] := by
  simp only [phi_ratio_times, m_ratio_times, evs, evl, evx, Bool.not_false, Bool.not_true, decide_true, decide_false, if_true, if_false, List.nil_append, List.cons_append, List.map_nil, List.map_cons, Int.toNat_natCast, Int.zero_add, List.length_cons, List.length_nil, Nat.reduceAdd, Int.cast_ofNat_Int, Int.reduceLT, Int.reduceLE, Int.reduceEq, Int.reduceSub, Int.reduceAdd, Int.reduceMul, Bool.false_eq_true, Int.reduceToNat, Int.reducePow, Int.reduceMod, Int.reduceDiv, Nat.reduceMul, Nat.reduceSub, Nat.reduceLT, Nat.reduceLeDiff, Int.reduceNeg, p_want_ratio hp.r, p_want_ratio hq.r, p_times_of hp hq hk]
  rfl
theorem p_ratio_compared (hp : Rb p k) (hq : Rb q k) (hk : k ≤ 199) : phi_ratio_compared [.d (pd p), .d (pd q)] = .ok (.d (.int (comp p q))) [.d (pd p), .d (pd q)] := by
  simp only [phi_ratio_compared, m_ratio_compared, evs, evl, evx, Bool.not_false, Bool.not_true, decide_true, decide_false, if_true, if_false, List.nil_append, List.cons_append, List.map_nil, List.map_cons, Int.toNat_natCast, Int.zero_add, List.length_cons, List.length_nil, Nat.reduceAdd, Int.cast_ofNat_Int, Int.reduceLT, Int.reduceLE, Int.reduceEq, Int.reduceSub, Int.reduceAdd, Int.reduceMul, Bool.false_eq_true, Int.reduceToNat, Int.reducePow, Int.reduceMod, Int.reduceDiv, Nat.reduceMul, Nat.reduceSub, Nat.reduceLT, Nat.reduceLeDiff, Int.reduceNeg, p_want_ratio hp.r, p_want_ratio hq.r, p_compared_of hp hq hk]
  rfl
theorem p_ratio_over (hp : Rb p k) (hq : Rb q k) (h0 : q.1 ≠ 0) (hk : k ≤ 199) : phi_ratio_over [.d (pd p), .d (pd q)] = .ok (.d (pd (over p q))) [.d (pd p), .d (pd q)] := by
  have e : decide (q.1 = 0) = false := decide_eq_false h0
  simp only [phi_ratio_over, m_ratio_over, evs, evl, evx, Bool.not_false, Bool.not_true, decide_true, decide_false, if_true, if_false, List.nil_append, List.cons_append, List.map_nil, List.map_cons, Int.toNat_natCast, Int.zero_add, List.length_cons, List.length_nil, Nat.reduceAdd, Int.cast_ofNat_Int, Int.reduceLT, Int.reduceLE, Int.reduceEq, Int.reduceSub, Int.reduceAdd, Int.reduceMul, Bool.false_eq_true, Int.reduceToNat, Int.reducePow, Int.reduceMod, Int.reduceDiv, Nat.reduceMul, Nat.reduceSub, Nat.reduceLT, Nat.reduceLeDiff, Int.reduceNeg, p_want_ratio hp.r, p_want_ratio hq.r, p_over_of hp hq h0 hk]
  have hw := p_want_ratio hq.r
  simp only [pd] at hw ⊢
  simp only [evs, evl, evx, Bool.not_false, Bool.not_true, decide_true, decide_false, if_true, if_false, List.nil_append, List.cons_append, List.map_nil, List.map_cons, Int.toNat_natCast, Int.zero_add, List.length_cons, List.length_nil, Nat.reduceAdd, Int.cast_ofNat_Int, Int.reduceLT, Int.reduceLE, Int.reduceEq, Int.reduceSub, Int.reduceAdd, Int.reduceMul, Bool.false_eq_true, Int.reduceToNat, Int.reducePow, Int.reduceMod, Int.reduceDiv, Nat.reduceMul, Nat.reduceSub, Nat.reduceLT, Nat.reduceLeDiff, Int.reduceNeg, hw, e]
  have ho := p_over_of hp hq h0 hk
  simp only [pd] at ho
  simp only [evs, evl, evx, Bool.not_false, Bool.not_true, decide_true, decide_false, if_true, if_false, List.nil_append, List.cons_append, List.map_nil, List.map_cons, Int.toNat_natCast, Int.zero_add, List.length_cons, List.length_nil, Nat.reduceAdd, Int.cast_ofNat_Int, Int.reduceLT, Int.reduceLE, Int.reduceEq, Int.reduceSub, Int.reduceAdd, Int.reduceMul, Bool.false_eq_true, Int.reduceToNat, Int.reducePow, Int.reduceMod, Int.reduceDiv, Nat.reduceMul, Nat.reduceSub, Nat.reduceLT, Nat.reduceLeDiff, Int.reduceNeg, ho]
  rfl
theorem p_want_integer (i : Int) : phi_want_integer [.d (.int i)] = .ok (.d (.int i)) [.d (.int i)] := by
  simp only [phi_want_integer, m_want_integer, evs, evl, evx, Bool.not_false, Bool.not_true, decide_true, decide_false, if_true, if_false, List.nil_append, List.cons_append, List.map_nil, List.map_cons, Int.toNat_natCast, Int.zero_add, List.length_cons, List.length_nil, Nat.reduceAdd, Int.cast_ofNat_Int, Int.reduceLT, Int.reduceLE, Int.reduceEq, Int.reduceSub, Int.reduceAdd, Int.reduceMul, Bool.false_eq_true, Int.reduceToNat, Int.reducePow, Int.reduceMod, Int.reduceDiv, Nat.reduceMul, Nat.reduceSub, Nat.reduceLT, Nat.reduceLeDiff, Int.reduceNeg, p_is_integer]
  rfl
theorem p_ratio_made {n u : Int} (hu : u ≠ 0) (hb : u.natAbs < 2 ^ 400) : phi_ratio_made [.d (.int n), .d (.int u)] = .ok (.d (pd (Rt.bare n u))) [.d (.int n), .d (.int u)] := by
  have e : decide (u = 0) = false := decide_eq_false hu
  simp only [phi_ratio_made, m_ratio_made, evs, evl, evx, Bool.not_false, Bool.not_true, decide_true, decide_false, if_true, if_false, List.nil_append, List.cons_append, List.map_nil, List.map_cons, Int.toNat_natCast, Int.zero_add, List.length_cons, List.length_nil, Nat.reduceAdd, Int.cast_ofNat_Int, Int.reduceLT, Int.reduceLE, Int.reduceEq, Int.reduceSub, Int.reduceAdd, Int.reduceMul, Bool.false_eq_true, Int.reduceToNat, Int.reducePow, Int.reduceMod, Int.reduceDiv, Nat.reduceMul, Nat.reduceSub, Nat.reduceLT, Nat.reduceLeDiff, Int.reduceNeg, p_want_integer, e, p_bare_ratio hu hb]
  rfl
end
end PG
end
section
set_option autoImplicit false
set_option linter.all false
namespace Rt
abbrev R2 := Int × Int
theorem mne {a b : Int} (ha : a ≠ 0) (hb : b ≠ 0) : a * b ≠ 0 := fun z => by
  rcases Int.mul_eq_zero.mp z with z | z
  · exact ha z
  · exact hb z
/-! sums of ratios over a common under -/
def sumAt (L : List R2) (W : Int) : Int := (L.map fun p => p.1 * (W / p.2)).sum
def lcmS (w : Int) (p : R2) : Int := w / ((Nat.gcd w.natAbs p.2.natAbs : Nat) : Int) * p.2
def lcmL (L : List R2) (w : Int) : Int := L.foldl lcmS w
def prodU (L : List R2) : Nat := L.foldl (fun w p => w * p.2.natAbs) 1
def sumR (L : List R2) : R2 := bare (sumAt L (lcmL L 1)) (lcmL L 1)
theorem prodU_go (L : List R2) (w : Nat) : L.foldl (fun w p => w * p.2.natAbs) w = w * prodU L := by
  unfold prodU
  induction L generalizing w with
  | nil => simp
  | cons p L ih => rw [List.foldl_cons, List.foldl_cons, ih, ih (1 * _)]; rw [Nat.one_mul, Nat.mul_assoc]
theorem prodU_cons (p : R2) (L : List R2) : prodU (p :: L) = p.2.natAbs * prodU L := by
  show (p :: L).foldl _ 1 = _
  rw [List.foldl_cons, prodU_go, Nat.one_mul]
theorem prodU_app (L M : List R2) : prodU (L ++ M) = prodU L * prodU M := by
  induction L with
  | nil => rw [List.nil_append]; show prodU M = 1 * prodU M; rw [Nat.one_mul]
  | cons p L ih => rw [List.cons_append, prodU_cons, prodU_cons, ih, Nat.mul_assoc]
theorem prodU_pos {L : List R2} (h : ∀ p ∈ L, IsR p) : 0 < prodU L := by
  induction L with
  | nil => exact Nat.one_pos
  | cons p L ih =>
    rw [prodU_cons]
    have := (h p (List.mem_cons_self ..)).1
    exact Nat.mul_pos (by omega) (ih fun q hq => h q (List.mem_cons_of_mem _ hq))
theorem prodU_perm {L M : List R2} (h : L.Perm M) : prodU L = prodU M := by
  induction h with
  | nil => rfl
  | cons x _ ih => rw [prodU_cons, prodU_cons, ih]
  | swap x y l => rw [prodU_cons, prodU_cons, prodU_cons, prodU_cons, Nat.mul_left_comm]
  | trans _ _ h1 h2 => exact h1.trans h2
theorem lcmS_pos {w : Int} {p : R2} (hw : 0 < w) (hp : IsR p) : 0 < lcmS w p := by
  have h1 := hp.1
  have g : 0 < Nat.gcd w.natAbs p.2.natAbs := Nat.gcd_pos_of_pos_left _ (by omega)
  have d : ((Nat.gcd w.natAbs p.2.natAbs : Nat) : Int) ∣ w := Int.ofNat_dvd_left.mpr (Nat.gcd_dvd_left ..)
  unfold lcmS
  refine Int.mul_pos ?_ (by omega)
  have gz : (0 : Int) < ((Nat.gcd w.natAbs p.2.natAbs : Nat) : Int) := by omega
  obtain ⟨k, hk⟩ := d
  generalize ((Nat.gcd w.natAbs p.2.natAbs : Nat) : Int) = z at *
  rw [hk, Int.mul_ediv_cancel_left _ (by omega)]
  rw [hk] at hw
  exact Int.pos_of_mul_pos_right hw (by omega)
theorem lcmS_dvd {w : Int} {p : R2} (hw : 0 < w) (hp : IsR p) : w ∣ lcmS w p ∧ p.2 ∣ lcmS w p := by
  have d : ((Nat.gcd w.natAbs p.2.natAbs : Nat) : Int) ∣ w := Int.ofNat_dvd_left.mpr (Nat.gcd_dvd_left ..)
  have d2 : ((Nat.gcd w.natAbs p.2.natAbs : Nat) : Int) ∣ p.2 := Int.ofNat_dvd_left.mpr (Nat.gcd_dvd_right ..)
  have g : 0 < Nat.gcd w.natAbs p.2.natAbs := Nat.gcd_pos_of_pos_left _ (by omega)
  unfold lcmS
  refine ⟨?_, Int.dvd_mul_left ..⟩
  have gz : ((Nat.gcd w.natAbs p.2.natAbs : Nat) : Int) ≠ 0 := by omega
  generalize ((Nat.gcd w.natAbs p.2.natAbs : Nat) : Int) = z at *
  obtain ⟨k, hk⟩ := d
  obtain ⟨l, hl⟩ := d2
  rw [hk, Int.mul_ediv_cancel_left _ gz, hl]
  exact ⟨l, by rw [Int.mul_comm z k, Int.mul_assoc]⟩
theorem lcmS_le {w : Int} {p : R2} (hw : 0 < w) (hp : IsR p) : (lcmS w p).natAbs ≤ w.natAbs * p.2.natAbs := by
  unfold lcmS
  rw [Int.natAbs_mul]
  refine Nat.mul_le_mul_right _ ?_
  exact Int.natAbs_ediv_le_natAbs ..
theorem lcmL_spec {L : List R2} : ∀ {w : Int}, 0 < w → (∀ p ∈ L, IsR p) → 0 < lcmL L w ∧ w ∣ lcmL L w ∧ (∀ p ∈ L, p.2 ∣ lcmL L w) ∧ (lcmL L w).natAbs ≤ w.natAbs * prodU L := by
  induction L with
  | nil => intro w hw _; exact ⟨hw, Int.dvd_refl _, fun p h => (nomatch h), by show w.natAbs ≤ w.natAbs * 1; omega⟩
  | cons p L ih =>
    intro w hw h
    have hp := h p (List.mem_cons_self ..)
    obtain ⟨a, b, c, d⟩ := ih (lcmS_pos hw hp) fun q hq => h q (List.mem_cons_of_mem _ hq)
    obtain ⟨e, f⟩ := lcmS_dvd hw hp
    refine ⟨a, Int.dvd_trans e b, fun q hq => ?_, ?_⟩
    · rcases List.mem_cons.mp hq with rfl | hq
      · exact Int.dvd_trans f b
      · exact c q hq
    · rw [prodU_cons]
      refine Nat.le_trans d ?_
      rw [← Nat.mul_assoc]
      exact Nat.mul_le_mul_right _ (lcmS_le hw hp)
theorem lcmL_snoc (L : List R2) (p : R2) (w : Int) : lcmL (L ++ [p]) w = lcmS (lcmL L w) p := by
  unfold lcmL; rw [List.foldl_append]; rfl
theorem sumAt_cons (p : R2) (L : List R2) (W : Int) : sumAt (p :: L) W = p.1 * (W / p.2) + sumAt L W := by
  unfold sumAt; rw [List.map_cons, List.sum_cons]
theorem sumAt_app (L M : List R2) (W : Int) : sumAt (L ++ M) W = sumAt L W + sumAt M W := by
  induction L with
  | nil => simp [sumAt]
  | cons p L ih => rw [List.cons_append, sumAt_cons, sumAt_cons, ih, Int.add_assoc]
theorem sumAt_cross {L : List R2} {W V : Int} (h : ∀ p ∈ L, IsR p) (hW : ∀ p ∈ L, p.2 ∣ W) (hV : ∀ p ∈ L, p.2 ∣ V) : sumAt L W * V = sumAt L V * W := by
  induction L with
  | nil => simp [sumAt]
  | cons p L ih =>
    have i := ih (fun q hq => h q (List.mem_cons_of_mem _ hq)) (fun q hq => hW q (List.mem_cons_of_mem _ hq)) (fun q hq => hV q (List.mem_cons_of_mem _ hq))
    have n := isR_ne (h p (List.mem_cons_self ..))
    obtain ⟨a, ha⟩ := hW p (List.mem_cons_self ..)
    obtain ⟨b, hb⟩ := hV p (List.mem_cons_self ..)
    rw [sumAt_cons, sumAt_cons, Int.add_mul, Int.add_mul, i]
    rw [show W / p.2 = a by rw [ha, Int.mul_ediv_cancel_left _ n], show V / p.2 = b by rw [hb, Int.mul_ediv_cancel_left _ n]]
    rw [ha, hb]; grind
/-- over whatever common under -/
theorem sumR_of {L : List R2} {W : Int} (h : ∀ p ∈ L, IsR p) (hW : ∀ p ∈ L, p.2 ∣ W) (h0 : W ≠ 0) : sumR L = bare (sumAt L W) W := by
  obtain ⟨a, _, c, _⟩ := lcmL_spec (L := L) (w := 1) (by omega) h
  exact bare_eq (by omega) h0 (sumAt_cross h c hW)
theorem sumAt_perm {L M : List R2} (h : L.Perm M) (W : Int) : sumAt L W = sumAt M W := by
  induction h with
  | nil => rfl
  | cons x _ ih => rw [sumAt_cons, sumAt_cons, ih]
  | swap x y l => rw [sumAt_cons, sumAt_cons, sumAt_cons, sumAt_cons]; omega
  | trans _ _ h1 h2 => exact h1.trans h2
theorem sumR_perm {L M : List R2} (h : ∀ p ∈ L, IsR p) (hp : L.Perm M) : sumR L = sumR M := by
  obtain ⟨a, _, c, _⟩ := lcmL_spec (L := L) (w := 1) (by omega) h
  rw [sumR_of (L := M) (fun p q => h p (hp.mem_iff.mpr q)) (fun p q => c p (hp.mem_iff.mpr q)) (show lcmL L 1 ≠ 0 by omega), ← sumAt_perm hp]
  rfl
theorem sumR_isR {L : List R2} (h : ∀ p ∈ L, IsR p) : IsR (sumR L) := by
  obtain ⟨a, _, _, _⟩ := lcmL_spec (L := L) (w := 1) (by omega) h
  exact bare_isR (by omega)
theorem sumR_app {L M : List R2} (h : ∀ p ∈ L, IsR p) (g : ∀ p ∈ M, IsR p) : sumR (L ++ M) = bare ((sumR L).1 * (sumR M).2 + (sumR M).1 * (sumR L).2) ((sumR L).2 * (sumR M).2) := by
  obtain ⟨a, _, c, _⟩ := lcmL_spec (L := L) (w := 1) (by omega) h
  obtain ⟨a2, _, c2, _⟩ := lcmL_spec (L := M) (w := 1) (by omega) g
  have h0 : lcmL L 1 * lcmL M 1 ≠ 0 := mne (by omega) (by omega)
  have e1 := sumR_of (L := L) (W := lcmL L 1 * lcmL M 1) h (fun p hp => Int.dvd_trans (c p hp) (Int.dvd_mul_right ..)) h0
  have e2 := sumR_of (L := M) (W := lcmL L 1 * lcmL M 1) g (fun p hp => Int.dvd_trans (c2 p hp) (Int.dvd_mul_left ..)) h0
  have e3 := sumR_of (L := L ++ M) (W := lcmL L 1 * lcmL M 1) (fun p hp => (List.mem_append.mp hp).elim (h p) (g p)) (fun p hp => (List.mem_append.mp hp).elim (fun hp => Int.dvd_trans (c p hp) (Int.dvd_mul_right ..)) (fun hp => Int.dvd_trans (c2 p hp) (Int.dvd_mul_left ..))) h0
  rw [e1, e2, e3, sumAt_app]
  generalize lcmL L 1 * lcmL M 1 = W at *
  have x1 := bare_cross (n := sumAt L W) h0
  have x2 := bare_cross (n := sumAt M W) h0
  have n1 := isR_ne (bare_isR (n := sumAt L W) h0)
  have n2 := isR_ne (bare_isR (n := sumAt M W) h0)
  refine (bare_eq (mne n1 n2) h0 ?_).symm
  refine Int.eq_of_mul_eq_mul_left h0 ?_
  grind
theorem sumR_one {p : R2} (h : IsR p) : sumR [p] = p := by
  rw [sumR_of (L := [p]) (W := p.2) (fun q hq => by simp at hq; subst hq; exact h) (fun q hq => by simp at hq; subst hq; exact Int.dvd_refl _) (isR_ne h)]
  rw [sumAt_cons, show sumAt [] p.2 = 0 from rfl, Int.ediv_self (isR_ne h), Int.mul_one, Int.add_zero]
  exact bare_self h
theorem sumR_neg {L : List R2} (h : ∀ p ∈ L, IsR p) (f : R2 → R2) (hf : ∀ p ∈ L, f p = (-p.1, p.2)) : sumR (L ++ L.map f) = (0, 1) := by
  obtain ⟨a, _, c, _⟩ := lcmL_spec (L := L) (w := 1) (by omega) h
  have hm : ∀ q ∈ L.map f, ∃ p ∈ L, q = (-p.1, p.2) := fun q hq => by
    obtain ⟨p, hp, rfl⟩ := List.mem_map.mp hq
    exact ⟨p, hp, hf p hp⟩
  have hr : ∀ q ∈ L.map f, IsR q := fun q hq => by
    obtain ⟨p, hp, rfl⟩ := hm q hq
    have := h p hp
    exact ⟨this.1, by rw [Int.gcd_eq_natAbs_gcd_natAbs, Int.natAbs_neg]; exact this.2⟩
  have e3 := sumR_of (L := L ++ L.map f) (W := lcmL L 1) (fun p hp => (List.mem_append.mp hp).elim (h p) (hr p)) (fun p hp => (List.mem_append.mp hp).elim (c p) (fun hq => by
    obtain ⟨q, hq', rfl⟩ := hm p hq
    exact c q hq')) (by omega)
  have key : ∀ (M : List R2) (W : Int), (∀ p ∈ M, f p = (-p.1, p.2)) → sumAt (M.map f) W = - sumAt M W := fun M W => by
    induction M with
    | nil => intro _; rfl
    | cons p M ih =>
      intro hM
      rw [List.map_cons, sumAt_cons, sumAt_cons, ih fun q hq => hM q (List.mem_cons_of_mem _ hq), hM p (List.mem_cons_self ..)]
      simp only
      grind
  rw [e3, sumAt_app, key L _ hf, Int.add_right_neg]
  exact uniq (bare_isR (by omega)) ⟨by decide, by decide⟩ (by
    have := bare_cross (n := 0) (u := lcmL L 1) (by omega)
    rw [Int.zero_mul] at this ⊢
    rcases Int.mul_eq_zero.mp this with z | z
    · rw [z]; rfl
    · omega)
theorem sumR_mul {L : List R2} {f : R2} (hf : IsR f) (h : ∀ p ∈ L, IsR p) : sumR (L.map fun p => bare (f.1 * p.1) (f.2 * p.2)) = bare (f.1 * (sumR L).1) (f.2 * (sumR L).2) := by
  obtain ⟨a, _, c, _⟩ := lcmL_spec (L := L) (w := 1) (by omega) h
  have nf := isR_ne hf
  have h0 : lcmL L 1 ≠ 0 := by omega
  have hr : ∀ q ∈ L.map (fun p => bare (f.1 * p.1) (f.2 * p.2)), IsR q := fun q hq => by
    obtain ⟨p, hp, rfl⟩ := List.mem_map.mp hq
    exact bare_isR (mne nf (isR_ne (h p hp)))
  have hd : ∀ p : R2, IsR p → (bare (f.1 * p.1) (f.2 * p.2)).2 ∣ f.2 * p.2 := fun p hp => by
    obtain ⟨s, hs, _, e⟩ := bare_spec (n := f.1 * p.1) (mne nf (isR_ne hp))
    rw [e]
    have d : (Int.gcd (f.1 * p.1) (f.2 * p.2) : Int) ∣ f.2 * p.2 := Int.gcd_dvd_right ..
    have h1 : f.2 * p.2 / (Int.gcd (f.1 * p.1) (f.2 * p.2) : Int) ∣ f.2 * p.2 := ⟨_, (Int.ediv_mul_cancel d).symm⟩
    rcases hs with rfl | rfl
    · simpa using h1
    · simpa using h1
  have e3 := sumR_of (L := L.map (fun p => bare (f.1 * p.1) (f.2 * p.2))) (W := f.2 * lcmL L 1) hr (fun q hq => by
    obtain ⟨p, hp, rfl⟩ := List.mem_map.mp hq
    exact Int.dvd_trans (hd p (h p hp)) (Int.mul_dvd_mul_left _ (c p hp))) (mne nf h0)
  have key : ∀ (M : List R2) (W : Int), (∀ p ∈ M, IsR p) → (∀ p ∈ M, p.2 ∣ W) → sumAt (M.map fun p => bare (f.1 * p.1) (f.2 * p.2)) (f.2 * W) = f.1 * sumAt M W := fun M W => by
    induction M with
    | nil => intro _ _; simp [sumAt]
    | cons p M ih =>
      intro hM hW
      have np := isR_ne (hM p (List.mem_cons_self ..))
      rw [List.map_cons, sumAt_cons, sumAt_cons, ih (fun q hq => hM q (List.mem_cons_of_mem _ hq)) (fun q hq => hW q (List.mem_cons_of_mem _ hq)), Int.mul_add]
      congr 1
      obtain ⟨y, hy⟩ := hW p (List.mem_cons_self ..)
      obtain ⟨z, hz⟩ := hd p (hM p (List.mem_cons_self ..))
      have cr := bare_cross (n := f.1 * p.1) (mne nf np)
      have nt := isR_ne (bare_isR (n := f.1 * p.1) (mne nf np))
      generalize bare (f.1 * p.1) (f.2 * p.2) = t at *
      rw [show W / p.2 = y by rw [hy, Int.mul_ediv_cancel_left _ np]]
      rw [show f.2 * W / t.2 = z * y by
        rw [hy, ← Int.mul_assoc, hz, Int.mul_assoc, Int.mul_ediv_cancel_left _ nt]]
      refine Int.eq_of_mul_eq_mul_left nt ?_
      have e1 : t.2 * (t.1 * (z * y)) = t.1 * (t.2 * z) * y := by grind
      rw [e1, ← hz, cr]; grind
  rw [e3, key L _ h c, sumR_of h c h0]
  have x1 := bare_cross (n := sumAt L (lcmL L 1)) h0
  have n1 := isR_ne (bare_isR (n := sumAt L (lcmL L 1)) h0)
  refine bare_eq (mne nf h0) (mne nf n1) ?_
  generalize bare _ _ = t at *
  grind
end Rt
end
section
set_option autoImplicit false
set_option Elab.async false
set_option linter.all false
set_option maxRecDepth 100000
namespace PG
open PySem L2 PySem.W Vm
theorem intsOf_map (ns : List Int) : intsOf (ns.map .int) = some ns := by
  induction ns with
  | nil => rfl
  | cons n ns ih => rw [List.map_cons, intsOf, ih]; rfl
theorem fSum_ints (ns : List Int) : fSum (.list (ns.map .int)) = some (.int ns.sum) := by
  unfold fSum
  simp only [itemsOf]
  rw [intsOf_map]; rfl
theorem toDs_map (xs : List PyData) : U.toDs (xs.map .d) = some xs := by
  induction xs with
  | nil => rfl
  | cons x xs ih => rw [List.map_cons, U.toDs, ih]; rfl
/-- rows of ratios that can be added -/
structure RL (L : List (Int × Int)) (k : Nat) : Prop where
  r : ∀ p ∈ L, Rt.IsR p
  n : ∀ p ∈ L, p.1.natAbs < 2 ^ k
  u : Rt.prodU L < 2 ^ 390
  l : L.length ≤ 1000
theorem RL.rb {L : List (Int × Int)} {k : Nat} (h : RL L k) {p : Int × Int} (hp : p ∈ L) : p.2.natAbs < 2 ^ 390 := by
  obtain ⟨s, t, rfl⟩ := List.append_of_mem hp
  have := h.u
  rw [Rt.prodU_app, Rt.prodU_cons] at this
  have a := Rt.prodU_pos (L := s) fun q hq => h.r q (by simp [hq])
  have b := Rt.prodU_pos (L := t) fun q hq => h.r q (by simp [hq])
  refine Nat.lt_of_le_of_lt ?_ this
  calc p.2.natAbs = 1 * (p.2.natAbs * 1) := by omega
    _ ≤ Rt.prodU s * (p.2.natAbs * Rt.prodU t) := Nat.mul_le_mul a (Nat.mul_le_mul_left _ b)
theorem prodU_pre {A B : List (Int × Int)} (h : ∀ p ∈ A ++ B, Rt.IsR p) : Rt.prodU A ≤ Rt.prodU (A ++ B) := by
  rw [Rt.prodU_app]
  have b := Rt.prodU_pos (L := B) fun q hq => h q (by simp [hq])
  exact Nat.le_mul_of_pos_right _ b
/-- the loop that finds the under -/
theorem under_step {L pre post : List (Int × Int)} {p : Int × Int} {k : Nat} (h : RL L k) (e : L = pre ++ p :: post) :
    0 < Rt.lcmL pre 1 ∧ (Rt.lcmL pre 1).natAbs < 2 ^ 390 ∧ (0 : Int) < ((Nat.gcd (Rt.lcmL pre 1).natAbs p.2.natAbs : Nat) : Int) ∧ ((Nat.gcd (Rt.lcmL pre 1).natAbs p.2.natAbs : Nat) : Int).natAbs.log2 < 9000 := by
  subst e
  have hr : ∀ q ∈ pre, Rt.IsR q := fun q hq => h.r q (by simp [hq])
  obtain ⟨a, b, c, d⟩ := Rt.lcmL_spec (L := pre) (w := 1) (by omega) hr
  have u := h.u
  have v := prodU_pre h.r
  have hp := h.rb (p := p) (by simp)
  have g : 0 < Nat.gcd (Rt.lcmL pre 1).natAbs p.2.natAbs := Nat.gcd_pos_of_pos_left _ (by omega)
  have p1 := (h.r p (by simp)).1
  have gl := Nat.gcd_le_right (Rt.lcmL pre 1).natAbs (show 0 < p.2.natAbs by omega)
  refine ⟨a, ?_, by omega, lg9 (zmono (k := 390) (by rw [Int.natAbs_natCast]; omega) (by omega))⟩
  have : (1 : Int).natAbs = 1 := rfl
  rw [this, Nat.one_mul] at d
  omega
theorem lcm_bd {L : List (Int × Int)} {k : Nat} (h : RL L k) : 0 < Rt.lcmL L 1 ∧ (Rt.lcmL L 1).natAbs < 2 ^ 390 := by
  obtain ⟨a, b, c, d⟩ := Rt.lcmL_spec (L := L) (w := 1) (by omega) h.r
  have u := h.u
  have : (1 : Int).natAbs = 1 := rfl
  rw [this, Nat.one_mul] at d
  exact ⟨a, by omega⟩
def numsOf (L : List (Int × Int)) (W : Int) : List Int := L.map fun p => p.1 * (W / p.2)
theorem under_loop {L : List (Int × Int)} {k : Nat} (h : RL L k) (R : U) : ∃ x2 x3 : Option U, loopF (gT 2 (gsC (gN 2) (gsC (gN 3) gsN))) (mAsg (mMul (mOp fDiv (mVar 1) (mA (mCons (mVar 1) (mCons (mVar 3) mNil)) (kScA fGcd))) (mVar 3)) (gN 1)) (L.map (U.d ∘ pd)) [some (R), some (.d (.int 1)), none, none] = .ok .next [some (R), some (.d (.int (Rt.lcmL L 1))), x2, x3] := by
  obtain ⟨ς', e, x2, x3, hς⟩ := loopF_map (g := (gT 2 (gsC (gN 2) (gsC (gN 3) gsN)))) (body := (mAsg (mMul (mOp fDiv (mVar 1) (mA (mCons (mVar 1) (mCons (mVar 3) mNil)) (kScA fGcd))) (mVar 3)) (gN 1))) L (U.d ∘ pd)
    (fun pre ς => ∃ x2 x3 : Option U, ς = [some (R), some (.d (.int (Rt.lcmL pre 1))), x2, x3])
    (ς := [some (R), some (.d (.int 1)), none, none])
    ⟨none, none, rfl⟩ (by
      rintro pre p post hi ς ⟨x2, x3, rfl⟩
      obtain ⟨w0, w1, g0, g1⟩ := under_step h hi
      have hp := h.rb (p := p) (by rw [hi]; simp)
      have el : Rt.lcmL (pre ++ [p]) 1 = Rt.lcmL pre 1 / ((Nat.gcd (Rt.lcmL pre 1).natAbs p.2.natAbs : Nat) : Int) * p.2 := Rt.lcmL_snoc pre p 1
      have s1 := zSm (a := Rt.lcmL pre 1 / ((Nat.gcd (Rt.lcmL pre 1).natAbs p.2.natAbs : Nat) : Int)) (k := 390) (Nat.lt_of_le_of_lt (Int.natAbs_ediv_le_natAbs ..) w1) (by omega)
      have s2 := zSm hp (by omega)
      generalize hX : stepF _ _ _ _ = X
      simp (disch := first | assumption | exact zSm (by repeat first | assumption | exact Vm.z1 | exact Vm.zm1 | exact Vm.z2 | exact Vm.z0 | with_reducible apply zmul | with_reducible apply zadd | with_reducible apply zsub | with_reducible apply zneg) (by first | decide | omega) | (simp only [sizeLine_eq, List.length_cons, List.length_nil, List.length_append, List.length_map, Nat.reduceAdd, Nat.reduceLT, Nat.reduceLeDiff]; done) | decide | rfl) only [evs, evl, evx, Bool.not_false, Bool.not_true, decide_true, decide_false, if_true, if_false, List.nil_append, List.cons_append, List.map_nil, List.map_cons, Int.toNat_natCast, Int.zero_add, List.length_cons, List.length_nil, Nat.reduceAdd, Int.cast_ofNat_Int, Int.reduceLT, Int.reduceLE, Int.reduceEq, Int.reduceSub, Int.reduceAdd, Int.reduceMul, Bool.false_eq_true, Int.reduceToNat, Int.reducePow, Int.reduceMod, Int.reduceDiv, Nat.reduceMul, Nat.reduceSub, Nat.reduceLT, Nat.reduceLeDiff, Int.reduceNeg, Function.comp_apply, pd, fDiv_ g0 g1, fMul_ s1 s2] at hX
      subst hX
      exact ⟨_, rfl, _, _, by rw [el]⟩)
  exact ⟨x2, x3, by rw [e, hς]⟩
theorem num_sm {L : List (Int × Int)} {k : Nat} (h : RL L k) (hk : k ≤ 1000) {p : Int × Int} (hp : p ∈ L) : (0 : Int) < p.2 ∧ p.2.natAbs.log2 < 9000 ∧ Sm p.1 ∧ Sm (Rt.lcmL L 1 / p.2) := by
  have r := h.r p hp
  have u := h.rb hp
  obtain ⟨w0, w1⟩ := lcm_bd h
  exact ⟨by have := r.1; omega, lg9 (zmono u (by omega)), zSm (h.n p hp) (by omega), zSm (k := 390) (Nat.lt_of_le_of_lt (Int.natAbs_ediv_le_natAbs ..) w1) (by omega)⟩
theorem p_same_underL {L : List (Int × Int)} {k : Nat} (h : RL L k) (hk : k ≤ 1000) : phi_same_under [.d (.list (L.map pd))] = .ok (.d (.tuple [.list ((numsOf L (Rt.lcmL L 1)).map .int), .int (Rt.lcmL L 1)])) [.d (.list (L.map pd))] := by
  obtain ⟨x2, x3, e⟩ := under_loop h (.d (.list (L.map pd)))
  have hl : ((L.map pd).map U.d).length ≤ 1000000 := by have := h.l; simp only [List.length_map]; omega
  simp only [phi_same_under, m_same_under, evs, evl, evx, Bool.not_false, Bool.not_true, decide_true, decide_false, if_true, if_false, List.nil_append, List.cons_append, List.map_nil, List.map_cons, Int.toNat_natCast, Int.zero_add, List.length_cons, List.length_nil, Nat.reduceAdd, Int.cast_ofNat_Int, Int.reduceLT, Int.reduceLE, Int.reduceEq, Int.reduceSub, Int.reduceAdd, Int.reduceMul, Bool.false_eq_true, Int.reduceToNat, Int.reducePow, Int.reduceMod, Int.reduceDiv, Nat.reduceMul, Nat.reduceSub, Nat.reduceLT, Nat.reduceLeDiff, Int.reduceNeg, List.map_map, e]
  rw [← List.map_map]
  rw [lcK_ hl, List.map_map, loopC_mapD (U.d ∘ pd) (fun p => .int (p.1 * (Rt.lcmL L 1 / p.2))) L]
  · have e2 : (List.map (fun p : Int × Int => PyData.int (p.1 * (Rt.lcmL L 1 / p.2))) L) = (numsOf L (Rt.lcmL L 1)).map .int := by unfold numsOf; rw [List.map_map]; rfl
    rw [e2]
    have e3 := toDs_map ((numsOf L (Rt.lcmL L 1)).map .int)
    cases x2 <;> cases x3 <;> (simp only [evs, evl, evx, Bool.not_false, Bool.not_true, decide_true, decide_false, if_true, if_false, List.nil_append, List.cons_append, List.map_nil, List.map_cons, Int.toNat_natCast, Int.zero_add, List.length_cons, List.length_nil, Nat.reduceAdd, Int.cast_ofNat_Int, Int.reduceLT, Int.reduceLE, Int.reduceEq, Int.reduceSub, Int.reduceAdd, Int.reduceMul, Bool.false_eq_true, Int.reduceToNat, Int.reducePow, Int.reduceMod, Int.reduceDiv, Nat.reduceMul, Nat.reduceSub, Nat.reduceLT, Nat.reduceLeDiff, Int.reduceNeg, e3]; rfl)
  · intro p hp
    obtain ⟨a, b, c, d⟩ := num_sm h hk hp
    simp only [evs, evl, evx, Bool.not_false, Bool.not_true, decide_true, decide_false, if_true, if_false, List.nil_append, List.cons_append, List.map_nil, List.map_cons, Int.toNat_natCast, Int.zero_add, List.length_cons, List.length_nil, Nat.reduceAdd, Int.cast_ofNat_Int, Int.reduceLT, Int.reduceLE, Int.reduceEq, Int.reduceSub, Int.reduceAdd, Int.reduceMul, Bool.false_eq_true, Int.reduceToNat, Int.reducePow, Int.reduceMod, Int.reduceDiv, Nat.reduceMul, Nat.reduceSub, Nat.reduceLT, Nat.reduceLeDiff, Int.reduceNeg, Function.comp_apply, pd, fDiv_ a b, fMul_ c d]
theorem p_same_underT {L : List (Int × Int)} {k : Nat} (h : RL L k) (hk : k ≤ 1000) : phi_same_under [.d (.tuple (L.map pd))] = .ok (.d (.tuple [.list ((numsOf L (Rt.lcmL L 1)).map .int), .int (Rt.lcmL L 1)])) [.d (.tuple (L.map pd))] := by
  obtain ⟨x2, x3, e⟩ := under_loop h (.d (.tuple (L.map pd)))
  have hl : ((L.map pd).map U.d).length ≤ 1000000 := by have := h.l; simp only [List.length_map]; omega
  simp only [phi_same_under, m_same_under, evs, evl, evx, Bool.not_false, Bool.not_true, decide_true, decide_false, if_true, if_false, List.nil_append, List.cons_append, List.map_nil, List.map_cons, Int.toNat_natCast, Int.zero_add, List.length_cons, List.length_nil, Nat.reduceAdd, Int.cast_ofNat_Int, Int.reduceLT, Int.reduceLE, Int.reduceEq, Int.reduceSub, Int.reduceAdd, Int.reduceMul, Bool.false_eq_true, Int.reduceToNat, Int.reducePow, Int.reduceMod, Int.reduceDiv, Nat.reduceMul, Nat.reduceSub, Nat.reduceLT, Nat.reduceLeDiff, Int.reduceNeg, List.map_map, e]
  rw [← List.map_map]
  rw [lcK_ hl, List.map_map, loopC_mapD (U.d ∘ pd) (fun p => .int (p.1 * (Rt.lcmL L 1 / p.2))) L]
  · have e2 : (List.map (fun p : Int × Int => PyData.int (p.1 * (Rt.lcmL L 1 / p.2))) L) = (numsOf L (Rt.lcmL L 1)).map .int := by unfold numsOf; rw [List.map_map]; rfl
    rw [e2]
    have e3 := toDs_map ((numsOf L (Rt.lcmL L 1)).map .int)
    cases x2 <;> cases x3 <;> (simp only [evs, evl, evx, Bool.not_false, Bool.not_true, decide_true, decide_false, if_true, if_false, List.nil_append, List.cons_append, List.map_nil, List.map_cons, Int.toNat_natCast, Int.zero_add, List.length_cons, List.length_nil, Nat.reduceAdd, Int.cast_ofNat_Int, Int.reduceLT, Int.reduceLE, Int.reduceEq, Int.reduceSub, Int.reduceAdd, Int.reduceMul, Bool.false_eq_true, Int.reduceToNat, Int.reducePow, Int.reduceMod, Int.reduceDiv, Nat.reduceMul, Nat.reduceSub, Nat.reduceLT, Nat.reduceLeDiff, Int.reduceNeg, e3]; rfl)
  · intro p hp
    obtain ⟨a, b, c, d⟩ := num_sm h hk hp
    simp only [evs, evl, evx, Bool.not_false, Bool.not_true, decide_true, decide_false, if_true, if_false, List.nil_append, List.cons_append, List.map_nil, List.map_cons, Int.toNat_natCast, Int.zero_add, List.length_cons, List.length_nil, Nat.reduceAdd, Int.cast_ofNat_Int, Int.reduceLT, Int.reduceLE, Int.reduceEq, Int.reduceSub, Int.reduceAdd, Int.reduceMul, Bool.false_eq_true, Int.reduceToNat, Int.reducePow, Int.reduceMod, Int.reduceDiv, Nat.reduceMul, Nat.reduceSub, Nat.reduceLT, Nat.reduceLeDiff, Int.reduceNeg, Function.comp_apply, pd, fDiv_ a b, fMul_ c d]
theorem sumR_eq (L : List (Int × Int)) : Rt.bare (numsOf L (Rt.lcmL L 1)).sum (Rt.lcmL L 1) = Rt.sumR L := rfl
theorem p_sum_ofL {L : List (Int × Int)} {k : Nat} (h : RL L k) (hk : k ≤ 1000) : phi_sum_of [.d (.list (L.map pd))] = .ok (.d (pd (Rt.sumR L))) [.d (.list (L.map pd))] := by
  obtain ⟨w0, w1⟩ := lcm_bd h
  have hb := p_bare_ratio (n := (numsOf L (Rt.lcmL L 1)).sum) (u := Rt.lcmL L 1) (by omega) (zmono w1 (by omega))
  simp only [phi_sum_of, m_sum_of, evs, evl, evx, Bool.not_false, Bool.not_true, decide_true, decide_false, if_true, if_false, List.nil_append, List.cons_append, List.map_nil, List.map_cons, Int.toNat_natCast, Int.zero_add, List.length_cons, List.length_nil, Nat.reduceAdd, Int.cast_ofNat_Int, Int.reduceLT, Int.reduceLE, Int.reduceEq, Int.reduceSub, Int.reduceAdd, Int.reduceMul, Bool.false_eq_true, Int.reduceToNat, Int.reducePow, Int.reduceMod, Int.reduceDiv, Nat.reduceMul, Nat.reduceSub, Nat.reduceLT, Nat.reduceLeDiff, Int.reduceNeg, p_same_underL h hk, fSum_ints, hb, sumR_eq]
  rfl
theorem p_sum_ofT {L : List (Int × Int)} {k : Nat} (h : RL L k) (hk : k ≤ 1000) : phi_sum_of [.d (.tuple (L.map pd))] = .ok (.d (pd (Rt.sumR L))) [.d (.tuple (L.map pd))] := by
  obtain ⟨w0, w1⟩ := lcm_bd h
  have hb := p_bare_ratio (n := (numsOf L (Rt.lcmL L 1)).sum) (u := Rt.lcmL L 1) (by omega) (zmono w1 (by omega))
  simp only [phi_sum_of, m_sum_of, evs, evl, evx, Bool.not_false, Bool.not_true, decide_true, decide_false, if_true, if_false, List.nil_append, List.cons_append, List.map_nil, List.map_cons, Int.toNat_natCast, Int.zero_add, List.length_cons, List.length_nil, Nat.reduceAdd, Int.cast_ofNat_Int, Int.reduceLT, Int.reduceLE, Int.reduceEq, Int.reduceSub, Int.reduceAdd, Int.reduceMul, Bool.false_eq_true, Int.reduceToNat, Int.reducePow, Int.reduceMod, Int.reduceDiv, Nat.reduceMul, Nat.reduceSub, Nat.reduceLT, Nat.reduceLeDiff, Int.reduceNeg, p_same_underT h hk, fSum_ints, hb, sumR_eq]
  rfl
/-- all of a row are ratios -/
theorem ratios_all {L : List (Int × Int)} (h : ∀ p ∈ L, Rt.IsR p) (R : U) : loopC [1] (gN 1) mYes (mCall phi_is_ratio [] (mCons (mVar 1) mNil)) (L.map (U.d ∘ pd)) [] [some R, none] = .ok ((L.map fun _ => PyData.bool true).map .d) [some R, none] :=
  loopC_mapD (U.d ∘ pd) (fun _ => .bool true) L fun p hp => by
    have := p_is_ratio (h p hp)
    simp only [evs, evl, evx, Bool.not_false, Bool.not_true, decide_true, decide_false, if_true, if_false, List.nil_append, List.cons_append, List.map_nil, List.map_cons, Int.toNat_natCast, Int.zero_add, List.length_cons, List.length_nil, Nat.reduceAdd, Int.cast_ofNat_Int, Int.reduceLT, Int.reduceLE, Int.reduceEq, Int.reduceSub, Int.reduceAdd, Int.reduceMul, Bool.false_eq_true, Int.reduceToNat, Int.reducePow, Int.reduceMod, Int.reduceDiv, Nat.reduceMul, Nat.reduceSub, Nat.reduceLT, Nat.reduceLeDiff, Int.reduceNeg, Function.comp_apply, this]
theorem p_ratio_sumL {L : List (Int × Int)} {k : Nat} (h : RL L k) (hk : k ≤ 1000) : phi_ratio_sum [.d (.list (L.map pd))] = .ok (.d (pd (Rt.sumR L))) [.d (.list (L.map pd))] := by
  have hl : ((L.map pd).map U.d).length ≤ 1000000 := by have := h.l; simp only [List.length_map]; omega
  have e := ratios_all h.r (.d (.list (L.map pd)))
  rw [← List.map_map] at e
  simp only [phi_ratio_sum, m_ratio_sum, evs, evl, evx, Bool.not_false, Bool.not_true, decide_true, decide_false, if_true, if_false, List.nil_append, List.cons_append, List.map_nil, List.map_cons, Int.toNat_natCast, Int.zero_add, List.length_cons, List.length_nil, Nat.reduceAdd, Int.cast_ofNat_Int, Int.reduceLT, Int.reduceLE, Int.reduceEq, Int.reduceSub, Int.reduceAdd, Int.reduceMul, Bool.false_eq_true, Int.reduceToNat, Int.reducePow, Int.reduceMod, Int.reduceDiv, Nat.reduceMul, Nat.reduceSub, Nat.reduceLT, Nat.reduceLeDiff, Int.reduceNeg, lcK_ hl, e, fAll_true, toDs_map, p_sum_ofL h hk]
  rfl
theorem p_ratio_sumT {L : List (Int × Int)} {k : Nat} (h : RL L k) (hk : k ≤ 1000) : phi_ratio_sum [.d (.tuple (L.map pd))] = .ok (.d (pd (Rt.sumR L))) [.d (.tuple (L.map pd))] := by
  have hl : ((L.map pd).map U.d).length ≤ 1000000 := by have := h.l; simp only [List.length_map]; omega
  have e := ratios_all h.r (.d (.tuple (L.map pd)))
  rw [← List.map_map] at e
  simp only [phi_ratio_sum, m_ratio_sum, evs, evl, evx, Bool.not_false, Bool.not_true, decide_true, decide_false, if_true, if_false, List.nil_append, List.cons_append, List.map_nil, List.map_cons, Int.toNat_natCast, Int.zero_add, List.length_cons, List.length_nil, Nat.reduceAdd, Int.cast_ofNat_Int, Int.reduceLT, Int.reduceLE, Int.reduceEq, Int.reduceSub, Int.reduceAdd, Int.reduceMul, Bool.false_eq_true, Int.reduceToNat, Int.reducePow, Int.reduceMod, Int.reduceDiv, Nat.reduceMul, Nat.reduceSub, Nat.reduceLT, Nat.reduceLeDiff, Int.reduceNeg, lcK_ hl, e, fAll_true, toDs_map, p_sum_ofT h hk]
  rfl
theorem p_ratio_sumO {L : List (Int × Int)} {k : Nat} (h : RL L k) (hk : k ≤ 1000) : phi_ratio_sum [.own ((L.map pd).map .d)] = .ok (.d (pd (Rt.sumR L))) [.d (.list (L.map pd))] := by
  have hl : ((L.map pd).map U.d).length ≤ 1000000 := by have := h.l; simp only [List.length_map]; omega
  have e := ratios_all h.r (.d (.list (L.map pd)))
  rw [← List.map_map] at e
  simp only [phi_ratio_sum, m_ratio_sum, evs, evl, evx, Bool.not_false, Bool.not_true, decide_true, decide_false, if_true, if_false, List.nil_append, List.cons_append, List.map_nil, List.map_cons, Int.toNat_natCast, Int.zero_add, List.length_cons, List.length_nil, Nat.reduceAdd, Int.cast_ofNat_Int, Int.reduceLT, Int.reduceLE, Int.reduceEq, Int.reduceSub, Int.reduceAdd, Int.reduceMul, Bool.false_eq_true, Int.reduceToNat, Int.reducePow, Int.reduceMod, Int.reduceDiv, Nat.reduceMul, Nat.reduceSub, Nat.reduceLT, Nat.reduceLeDiff, Int.reduceNeg, toDs_map, lcK_ hl, e, fAll_true, p_sum_ofL h hk]
  rfl
end PG
end
section
set_option autoImplicit false
set_option Elab.async false
set_option linter.all false
set_option maxRecDepth 100000
namespace PG
open PySem L2 PySem.W Vm
def intT (ns : List Int) : PyData := .tuple (ns.map .int)
def intL (ns : List Int) : PyData := .list (ns.map .int)
theorem fIn_intT (a : Int) (ns : List Int) : fIn false (.int a) (.tuple (ns.map .int)) = some (.bool (decide (a ∈ ns))) := by
  refine (fIn_tup (y := a) (zs := ns) rfl).trans ?_
  congr
theorem fInN_of {d c : PyData} {b : Bool} (h : fIn false d c = some (.bool b)) : fIn true d c = some (.bool (!b)) := by
  unfold fIn at *
  cases e : itemsOf c with
  | none => rw [e] at h; cases h
  | some xs =>
    rw [e] at h
    simp only at h ⊢
    by_cases hl : lev 8 d = true
    · rw [if_pos hl] at h ⊢
      have := PyData.bool.inj (Option.some.inj h)
      rw [← this]; rfl
    · rw [if_neg hl] at h; cases h
theorem fInN_intT (a : Int) (ns : List Int) : fIn true (.int a) (.tuple (ns.map .int)) = some (.bool (decide (¬ a ∈ ns))) := by
  rw [fInN_of (fIn_intT a ns), decide_not]
theorem fInN_intL (a : Int) (ns : List Int) : fIn true (.int a) (.list (ns.map .int)) = some (.bool (decide (¬ a ∈ ns))) := by
  rw [fInN_of (fIn_int a ns), decide_not]
theorem fIn_pr (a : Int) (p : Int × Int) : fIn false (.int a) (.tuple [.int p.1, .int p.2]) = some (.bool (decide (a = p.1 ∨ a = p.2))) := by
  refine (fIn_intT a [p.1, p.2]).trans ?_
  simp
theorem fNe_bool (a b : Bool) : fNe (.bool a) (.bool b) = some (.bool (a != b)) := by cases a <;> cases b <;> rfl
theorem fEq_bool (a b : Bool) : fEq (.bool a) (.bool b) = some (.bool (a == b)) := by cases a <;> cases b <;> rfl
theorem itemsLen {α : Type} (f : α → PyData) (l : List α) (k : Nat) (h : l.length ≤ k) (hk : k ≤ 1000000) : ((l.map f).map U.d).length ≤ 1000000 := by simp only [List.length_map]; omega
theorem p_is_wideT (xs : List PyData) (n : Int) : phi_is_wide [.d (.tuple xs), .d (.int n)] = .ok (.d (.bool (decide (2 ≤ (xs.length : Int)) && decide ((xs.length : Int) ≤ n - 2)))) [.d (.tuple xs), .d (.int n)] := by
  generalize hX : phi_is_wide _ = X
  simp only [phi_is_wide, m_is_wide, evs, evl, evx, Bool.not_false, Bool.not_true, decide_true, decide_false, if_true, if_false, List.nil_append, List.cons_append, List.map_nil, List.map_cons, Int.toNat_natCast, Int.zero_add, List.length_cons, List.length_nil, Nat.reduceAdd, Int.cast_ofNat_Int, Int.reduceLT, Int.reduceLE, Int.reduceEq, Int.reduceSub, Int.reduceAdd, Int.reduceMul, Bool.false_eq_true, Int.reduceToNat, Int.reducePow, Int.reduceMod, Int.reduceDiv, Nat.reduceMul, Nat.reduceSub, Nat.reduceLT, Nat.reduceLeDiff, Int.reduceNeg] at hX
  by_cases h : 2 ≤ (xs.length : Int)
  · by_cases h2 : (xs.length : Int) ≤ n - 2
    · simp only [evs, evl, evx, Bool.not_false, Bool.not_true, decide_true, decide_false, if_true, if_false, List.nil_append, List.cons_append, List.map_nil, List.map_cons, Int.toNat_natCast, Int.zero_add, List.length_cons, List.length_nil, Nat.reduceAdd, Int.cast_ofNat_Int, Int.reduceLT, Int.reduceLE, Int.reduceEq, Int.reduceSub, Int.reduceAdd, Int.reduceMul, Bool.false_eq_true, Int.reduceToNat, Int.reducePow, Int.reduceMod, Int.reduceDiv, Nat.reduceMul, Nat.reduceSub, Nat.reduceLT, Nat.reduceLeDiff, Int.reduceNeg, h, h2] at hX
      rw [decide_eq_true h, decide_eq_true h2]; subst hX; rfl
    · simp only [evs, evl, evx, Bool.not_false, Bool.not_true, decide_true, decide_false, if_true, if_false, List.nil_append, List.cons_append, List.map_nil, List.map_cons, Int.toNat_natCast, Int.zero_add, List.length_cons, List.length_nil, Nat.reduceAdd, Int.cast_ofNat_Int, Int.reduceLT, Int.reduceLE, Int.reduceEq, Int.reduceSub, Int.reduceAdd, Int.reduceMul, Bool.false_eq_true, Int.reduceToNat, Int.reducePow, Int.reduceMod, Int.reduceDiv, Nat.reduceMul, Nat.reduceSub, Nat.reduceLT, Nat.reduceLeDiff, Int.reduceNeg, h, h2] at hX
      rw [decide_eq_true h, decide_eq_false h2]; subst hX; rfl
  · simp only [evs, evl, evx, Bool.not_false, Bool.not_true, decide_true, decide_false, if_true, if_false, List.nil_append, List.cons_append, List.map_nil, List.map_cons, Int.toNat_natCast, Int.zero_add, List.length_cons, List.length_nil, Nat.reduceAdd, Int.cast_ofNat_Int, Int.reduceLT, Int.reduceLE, Int.reduceEq, Int.reduceSub, Int.reduceAdd, Int.reduceMul, Bool.false_eq_true, Int.reduceToNat, Int.reducePow, Int.reduceMod, Int.reduceDiv, Nat.reduceMul, Nat.reduceSub, Nat.reduceLT, Nat.reduceLeDiff, Int.reduceNeg, h] at hX
    rw [decide_eq_false h]; subst hX; rfl
theorem selfL {l : List PyData} (h : ∀ x ∈ l, lev 7 x = true ∧ x.plain = true) : lev 8 (.list l) = true ∧ (PyData.list l).plain = true := by
  refine ⟨by rw [lev_lst, List.all_eq_true]; exact fun x hx => (h x hx).1, ?_⟩
  have : ∀ M : List PyData, (∀ x ∈ M, x.plain = true) → PyData.plainAll M = true := fun M => by
    induction M with
    | nil => intro _; rfl
    | cons p M ih => intro k; rw [PyData.plainAll, ih fun x hx => k x (by simp [hx]), k p (by simp)]; rfl
  exact this l fun x hx => (h x hx).2
theorem fNe_lself {l : List PyData} (h : ∀ x ∈ l, lev 7 x = true ∧ x.plain = true) : fNe (.list l) (.list l) = some (.bool false) := fNe_self (selfL h).1 (selfL h).2
theorem fEq_lself {l : List PyData} (h : ∀ x ∈ l, lev 7 x = true ∧ x.plain = true) : fEq (.list l) (.list l) = some (.bool true) := fEq_self (selfL h).1 (selfL h).2
theorem fNe_pdl (L : List (Int × Int)) : fNe (.list (L.map pd)) (.list (L.map pd)) = some (.bool false) := fNe_lself fun x hx => by obtain ⟨p, _, rfl⟩ := List.mem_map.mp hx; exact ⟨rfl, rfl⟩
theorem fEq_pd_self (p : Int × Int) : fEq (pd p) (pd p) = some (.bool true) := fEq_self rfl rfl
theorem fNe_pd_self (p : Int × Int) : fNe (pd p) (pd p) = some (.bool false) := fNe_self rfl rfl
theorem fNe_intl (L : List Int) : fNe (.list (L.map .int)) (.list (L.map .int)) = some (.bool false) := fNe_lself fun x hx => by obtain ⟨p, _, rfl⟩ := List.mem_map.mp hx; exact ⟨rfl, rfl⟩
structure CutOk (n : Int) (C : List Int) : Prop where
  c0 : C.head? = some 0
  rng : ∀ c ∈ C, 0 ≤ c ∧ c < n
  srt : C.Pairwise (· < ·)
  l2 : 2 ≤ C.length
  l3 : (C.length : Int) ≤ n - 2
theorem pairwise_zip {α : Type} {R : α → α → Prop} : ∀ {l : List α}, l.Pairwise R → ∀ q ∈ l.zip (l.drop 1), R q.1 q.2
  | [], _, _, h => by cases h
  | [x], _, _, h => by cases h
  | x :: y :: l, hp, q, h => by
    rw [List.pairwise_cons] at hp
    rcases List.mem_cons.mp h with h | h
    · subst h; exact hp.1 y (by simp)
    · exact pairwise_zip hp.2 q h
theorem p_is_cut_of {n : Int} {ts : List (Int × Int)} {C : List Int} (G : Good n ts) (h : CutOk n C) : phi_is_cut_of [.d (webD n ts), .d (.tuple (C.map .int))] = .ok (.d (.bool true)) [.d (webD n ts), .d (.tuple (C.map .int))] := by
  have n12 := G.n12
  have l2 := h.l2
  have l3 := h.l3
  have hl : ((C.map PyData.int).map U.d).length ≤ 1000000 := itemsLen _ _ 12 (by omega) (by omega)
  have w := p_is_wideT (C.map .int) n
  rw [List.length_map, decide_eq_true (by omega : 2 ≤ (C.length : Int)), decide_eq_true (by omega : (C.length : Int) ≤ n - 2), Bool.and_self] at w
  have c0 : atI (C.map PyData.int) 0 = some (.int 0) := by have := h.c0; cases C with | nil => cases this | cons c C => cases this; exact atI_at (by omega) rfl
  generalize hX : phi_is_cut_of _ = X
  simp only [phi_is_cut_of, m_is_cut_of, evs, evl, evx, Bool.not_false, Bool.not_true, decide_true, decide_false, if_true, if_false, List.nil_append, List.cons_append, List.map_nil, List.map_cons, Int.toNat_natCast, Int.zero_add, List.length_cons, List.length_nil, Nat.reduceAdd, Int.cast_ofNat_Int, Int.reduceLT, Int.reduceLE, Int.reduceEq, Int.reduceSub, Int.reduceAdd, Int.reduceMul, Bool.false_eq_true, Int.reduceToNat, Int.reducePow, Int.reduceMod, Int.reduceDiv, Nat.reduceMul, Nat.reduceSub, Nat.reduceLT, Nat.reduceLeDiff, Int.reduceNeg, webD, w] at hX
  rw [lcK_ hl, List.map_map, loopC_mapD (U.d ∘ PyData.int) (fun _ => .bool true) C (by
    intro c hc
    have r := h.rng c hc
    have p := p_is_from_to (i := c) (a := 0) (b := n - 1) r.1 (by omega)
    simp only [evs, evl, evx, Bool.not_false, Bool.not_true, decide_true, decide_false, if_true, if_false, List.nil_append, List.cons_append, List.map_nil, List.map_cons, Int.toNat_natCast, Int.zero_add, List.length_cons, List.length_nil, Nat.reduceAdd, Int.cast_ofNat_Int, Int.reduceLT, Int.reduceLE, Int.reduceEq, Int.reduceSub, Int.reduceAdd, Int.reduceMul, Bool.false_eq_true, Int.reduceToNat, Int.reducePow, Int.reduceMod, Int.reduceDiv, Nat.reduceMul, Nat.reduceSub, Nat.reduceLT, Nat.reduceLeDiff, Int.reduceNeg, Function.comp_apply, p])] at hX
  simp only [evs, evl, evx, Bool.not_false, Bool.not_true, decide_true, decide_false, if_true, if_false, List.nil_append, List.cons_append, List.map_nil, List.map_cons, Int.toNat_natCast, Int.zero_add, List.length_cons, List.length_nil, Nat.reduceAdd, Int.cast_ofNat_Int, Int.reduceLT, Int.reduceLE, Int.reduceEq, Int.reduceSub, Int.reduceAdd, Int.reduceMul, Bool.false_eq_true, Int.reduceToNat, Int.reducePow, Int.reduceMod, Int.reduceDiv, Nat.reduceMul, Nat.reduceSub, Nat.reduceLT, Nat.reduceLeDiff, Int.reduceNeg, fAll_true, c0] at hX
  have hl2 : (zipU (C.map PyData.int) ((C.map PyData.int).drop 1)).length ≤ 1000000 := by
    rw [zipU_map]; simp only [List.length_map, List.length_zip]; omega
  rw [cutL_from1, lcK_ hl2, zipU_map, ← List.map_drop, List.zip_map, List.map_map, loopC_mapD _ (fun _ => .bool true) (C.zip (C.drop 1)) (by
    intro q hq
    have := pairwise_zip h.srt q hq
    simp only [evs, evl, evx, Bool.not_false, Bool.not_true, decide_true, decide_false, if_true, if_false, List.nil_append, List.cons_append, List.map_nil, List.map_cons, Int.toNat_natCast, Int.zero_add, List.length_cons, List.length_nil, Nat.reduceAdd, Int.cast_ofNat_Int, Int.reduceLT, Int.reduceLE, Int.reduceEq, Int.reduceSub, Int.reduceAdd, Int.reduceMul, Bool.false_eq_true, Int.reduceToNat, Int.reducePow, Int.reduceMod, Int.reduceDiv, Nat.reduceMul, Nat.reduceSub, Nat.reduceLT, Nat.reduceLeDiff, Int.reduceNeg, Function.comp_apply, Prod.map_fst, Prod.map_snd, this])] at hX
  simp only [evs, evl, evx, Bool.not_false, Bool.not_true, decide_true, decide_false, if_true, if_false, List.nil_append, List.cons_append, List.map_nil, List.map_cons, Int.toNat_natCast, Int.zero_add, List.length_cons, List.length_nil, Nat.reduceAdd, Int.cast_ofNat_Int, Int.reduceLT, Int.reduceLE, Int.reduceEq, Int.reduceSub, Int.reduceAdd, Int.reduceMul, Bool.false_eq_true, Int.reduceToNat, Int.reducePow, Int.reduceMod, Int.reduceDiv, Nat.reduceMul, Nat.reduceSub, Nat.reduceLT, Nat.reduceLeDiff, Int.reduceNeg, fAll_true] at hX
  subst hX; rfl
theorem p_want_cut {n : Int} {ts : List (Int × Int)} {C : List Int} (G : Good n ts) (h : CutOk n C) : phi_want_cut [.d (webD n ts), .d (.tuple (C.map .int))] = .ok (.d (.tuple (C.map .int))) [.d (webD n ts), .d (.tuple (C.map .int))] := by
  simp only [phi_want_cut, m_want_cut, evs, evl, evx, Bool.not_false, Bool.not_true, decide_true, decide_false, if_true, if_false, List.nil_append, List.cons_append, List.map_nil, List.map_cons, Int.toNat_natCast, Int.zero_add, List.length_cons, List.length_nil, Nat.reduceAdd, Int.cast_ofNat_Int, Int.reduceLT, Int.reduceLE, Int.reduceEq, Int.reduceSub, Int.reduceAdd, Int.reduceMul, Bool.false_eq_true, Int.reduceToNat, Int.reducePow, Int.reduceMod, Int.reduceDiv, Nat.reduceMul, Nat.reduceSub, Nat.reduceLT, Nat.reduceLeDiff, Int.reduceNeg, p_is_cut_of G h]
  rfl
/-- does a tie lie across -/
def acr (C : List Int) (p : Int × Int) : Bool := decide (p.1 ∈ C) != decide (p.2 ∈ C)
/-- positions with a property, from k on -/
def posB {α : Type} (f : α → Bool) : Nat → List α → List Nat
  | _, [] => []
  | k, a :: l => if f a then k :: posB f (k + 1) l else posB f (k + 1) l
theorem posB_eq {α : Type} (f : α → Bool) : ∀ (l : List α) (k : Nat), posB f k l = ((l.zipIdx k).filter fun x => f x.1).map Prod.snd
  | [], k => rfl
  | a :: l, k => by
    rw [posB, List.zipIdx_cons, List.filter_cons, posB_eq f l (k + 1)]
    by_cases h : f a = true
    · rw [if_pos h, if_pos h]; rfl
    · rw [if_neg h, if_neg h]
theorem enumU_map {α : Type} (e : α → PyData) : ∀ (l : List α) (k : Nat), enumU k (l.map e) = (l.zipIdx k).map fun x => .pr [.d (.int (x.2 : Nat)), .d (e x.1)]
  | [], k => rfl
  | a :: l, k => by
    rw [List.map_cons, enumU_c, enumU_map e l (k + 1), List.zipIdx_cons]; rfl
theorem posB_bd {α : Type} (f : α → Bool) : ∀ (l : List α) (k : Nat), ∀ i ∈ posB f k l, k ≤ i ∧ i < k + l.length
  | [], _, _, h => by cases h
  | a :: l, k, i, h => by
    rw [posB] at h
    rw [List.length_cons]
    by_cases e : f a = true
    · rw [if_pos e] at h
      rcases List.mem_cons.mp h with h | h
      · omega
      · have := posB_bd f l (k + 1) i h; omega
    · rw [if_neg e] at h
      have := posB_bd f l (k + 1) i h; omega
theorem p_across_of {n : Int} {ts : List (Int × Int)} {C : List Int} (G : Good n ts) : phi_across_of [.d (webD n ts), .d (.tuple (C.map .int))] = .ok (.own (((posB (acr C) 0 ts).map fun i : Nat => PyData.int (i : Nat)).map .d)) [.d (webD n ts), .d (.tuple (C.map .int))] := by
  have hl : (enumU 0 (ts.map pd)).length ≤ 1000000 := by rw [enumU_len, List.length_map]; have := G.len; omega
  generalize hX : phi_across_of _ = X
  simp only [phi_across_of, m_across_of, evs, evl, evx, Bool.not_false, Bool.not_true, decide_true, decide_false, if_true, if_false, List.nil_append, List.cons_append, List.map_nil, List.map_cons, Int.toNat_natCast, Int.zero_add, List.length_cons, List.length_nil, Nat.reduceAdd, Int.cast_ofNat_Int, Int.reduceLT, Int.reduceLE, Int.reduceEq, Int.reduceSub, Int.reduceAdd, Int.reduceMul, Bool.false_eq_true, Int.reduceToNat, Int.reducePow, Int.reduceMod, Int.reduceDiv, Nat.reduceMul, Nat.reduceSub, Nat.reduceLT, Nat.reduceLeDiff, Int.reduceNeg, webD] at hX
  rw [lcK_ hl, enumU_map, loopC_filD _ (fun x => acr C x.1) (fun x => PyData.int (x.2 : Nat)) (ts.zipIdx 0) (by
    intro x hx
    generalize hY : stepC _ _ _ _ _ _ = Y
    simp only [evs, evl, evx, Bool.not_false, Bool.not_true, decide_true, decide_false, if_true, if_false, List.nil_append, List.cons_append, List.map_nil, List.map_cons, Int.toNat_natCast, Int.zero_add, List.length_cons, List.length_nil, Nat.reduceAdd, Int.cast_ofNat_Int, Int.reduceLT, Int.reduceLE, Int.reduceEq, Int.reduceSub, Int.reduceAdd, Int.reduceMul, Bool.false_eq_true, Int.reduceToNat, Int.reducePow, Int.reduceMod, Int.reduceDiv, Nat.reduceMul, Nat.reduceSub, Nat.reduceLT, Nat.reduceLeDiff, Int.reduceNeg, pd, fIn_intT, fNe_bool] at hY
    rw [show (decide (x.fst.fst ∈ C) != decide (x.fst.snd ∈ C)) = acr C x.1 from rfl] at hY
    subst hY
    cases acr C x.1 <;> simp only [evs, evl, evx, Bool.not_false, Bool.not_true, decide_true, decide_false, if_true, if_false, List.nil_append, List.cons_append, List.map_nil, List.map_cons, Int.toNat_natCast, Int.zero_add, List.length_cons, List.length_nil, Nat.reduceAdd, Int.cast_ofNat_Int, Int.reduceLT, Int.reduceLE, Int.reduceEq, Int.reduceSub, Int.reduceAdd, Int.reduceMul, Bool.false_eq_true, Int.reduceToNat, Int.reducePow, Int.reduceMod, Int.reduceDiv, Nat.reduceMul, Nat.reduceSub, Nat.reduceLT, Nat.reduceLeDiff, Int.reduceNeg])] at hX
  simp only [evs, evl, evx, Bool.not_false, Bool.not_true, decide_true, decide_false, if_true, if_false, List.nil_append, List.cons_append, List.map_nil, List.map_cons, Int.toNat_natCast, Int.zero_add, List.length_cons, List.length_nil, Nat.reduceAdd, Int.cast_ofNat_Int, Int.reduceLT, Int.reduceLE, Int.reduceEq, Int.reduceSub, Int.reduceAdd, Int.reduceMul, Bool.false_eq_true, Int.reduceToNat, Int.reducePow, Int.reduceMod, Int.reduceDiv, Nat.reduceMul, Nat.reduceSub, Nat.reduceLT, Nat.reduceLeDiff, Int.reduceNeg] at hX
  subst hX
  rw [posB_eq, List.map_map, List.map_map, List.map_map]
  rfl
def atS (ts : List (Int × Int)) (ns : List Int) (c : Int) : Int := (((ts.zip ns).filter fun x => decide (c = x.1.1 ∨ c = x.1.2)).map Prod.snd).sum
def acS (ts : List (Int × Int)) (ns : List Int) (f : Int × Int → Bool) : Int := (((ts.zip ns).filter fun x => f x.1).map Prod.snd).sum
theorem p_at_of {n : Int} {ts : List (Int × Int)} {ns : List Int} {c : Int} (G : Good n ts) : phi_at_of [.d (webD n ts), .d (.list (ns.map .int)), .d (.int c)] = .ok (.d (.int (atS ts ns c))) [.d (webD n ts), .d (.list (ns.map .int)), .d (.int c)] := by
  have hl : (zipU (ts.map pd) (ns.map PyData.int)).length ≤ 1000000 := by
    rw [zipU_map]; have := G.len; simp only [List.length_map, List.length_zip]; omega
  generalize hX : phi_at_of _ = X
  simp only [phi_at_of, m_at_of, evs, evl, evx, Bool.not_false, Bool.not_true, decide_true, decide_false, if_true, if_false, List.nil_append, List.cons_append, List.map_nil, List.map_cons, Int.toNat_natCast, Int.zero_add, List.length_cons, List.length_nil, Nat.reduceAdd, Int.cast_ofNat_Int, Int.reduceLT, Int.reduceLE, Int.reduceEq, Int.reduceSub, Int.reduceAdd, Int.reduceMul, Bool.false_eq_true, Int.reduceToNat, Int.reducePow, Int.reduceMod, Int.reduceDiv, Nat.reduceMul, Nat.reduceSub, Nat.reduceLT, Nat.reduceLeDiff, Int.reduceNeg, webD] at hX
  rw [lcK_ hl, zipU_map, List.zip_map, List.map_map, loopC_filD _ (fun x => decide (c = x.1.1 ∨ c = x.1.2)) (fun x => PyData.int x.2) (ts.zip ns) (by
    intro x hx
    generalize hY : stepC _ _ _ _ _ _ = Y
    simp only [evs, evl, evx, Bool.not_false, Bool.not_true, decide_true, decide_false, if_true, if_false, List.nil_append, List.cons_append, List.map_nil, List.map_cons, Int.toNat_natCast, Int.zero_add, List.length_cons, List.length_nil, Nat.reduceAdd, Int.cast_ofNat_Int, Int.reduceLT, Int.reduceLE, Int.reduceEq, Int.reduceSub, Int.reduceAdd, Int.reduceMul, Bool.false_eq_true, Int.reduceToNat, Int.reducePow, Int.reduceMod, Int.reduceDiv, Nat.reduceMul, Nat.reduceSub, Nat.reduceLT, Nat.reduceLeDiff, Int.reduceNeg, Function.comp_apply, Prod.map_fst, Prod.map_snd, pd, fIn_pr] at hY
    subst hY
    cases decide (c = x.1.1 ∨ c = x.1.2) <;> simp only [evs, evl, evx, Bool.not_false, Bool.not_true, decide_true, decide_false, if_true, if_false, List.nil_append, List.cons_append, List.map_nil, List.map_cons, Int.toNat_natCast, Int.zero_add, List.length_cons, List.length_nil, Nat.reduceAdd, Int.cast_ofNat_Int, Int.reduceLT, Int.reduceLE, Int.reduceEq, Int.reduceSub, Int.reduceAdd, Int.reduceMul, Bool.false_eq_true, Int.reduceToNat, Int.reducePow, Int.reduceMod, Int.reduceDiv, Nat.reduceMul, Nat.reduceSub, Nat.reduceLT, Nat.reduceLeDiff, Int.reduceNeg])] at hX
  rw [show (List.filter (fun x => decide (c = x.1.1 ∨ c = x.1.2)) (ts.zip ns)).map (fun x => PyData.int x.2) = (((ts.zip ns).filter fun x => decide (c = x.1.1 ∨ c = x.1.2)).map Prod.snd).map .int by rw [List.map_map]; rfl] at hX
  simp only [evs, evl, evx, Bool.not_false, Bool.not_true, decide_true, decide_false, if_true, if_false, List.nil_append, List.cons_append, List.map_nil, List.map_cons, Int.toNat_natCast, Int.zero_add, List.length_cons, List.length_nil, Nat.reduceAdd, Int.cast_ofNat_Int, Int.reduceLT, Int.reduceLE, Int.reduceEq, Int.reduceSub, Int.reduceAdd, Int.reduceMul, Bool.false_eq_true, Int.reduceToNat, Int.reducePow, Int.reduceMod, Int.reduceDiv, Nat.reduceMul, Nat.reduceSub, Nat.reduceLT, Nat.reduceLeDiff, Int.reduceNeg, toDs_map, fSum_ints] at hX
  subst hX
  rfl
structure RowOk (ts R : List (Int × Int)) (k : Nat) : Prop where
  l : R.length = ts.length
  rl : RL R k
theorem p_want_row {n : Int} {ts R : List (Int × Int)} {k : Nat} (G : Good n ts) (h : RowOk ts R k) : phi_want_row [.d (webD n ts), .d (.tuple (R.map pd))] = .ok (.d (.tuple (R.map pd))) [.d (webD n ts), .d (.tuple (R.map pd))] := by
  have p : phi_is_row_of [.d (webD n ts), .d (.tuple (R.map pd))] = .ok (.d (.bool true)) [.d (webD n ts), .d (.tuple (R.map pd))] := by
    have hl : ((R.map pd).map U.d).length ≤ 1000000 := itemsLen _ _ 1000 h.rl.l (by omega)
    have l := h.l
    have hl2 : ((R.map pd).length : Int) = ((ts.map pd).length : Int) := by simp only [List.length_map]; omega
    generalize hX : phi_is_row_of _ = X
    simp only [phi_is_row_of, m_is_row_of, evs, evl, evx, Bool.not_false, Bool.not_true, decide_true, decide_false, if_true, if_false, List.nil_append, List.cons_append, List.map_nil, List.map_cons, Int.toNat_natCast, Int.zero_add, List.length_cons, List.length_nil, Nat.reduceAdd, Int.cast_ofNat_Int, Int.reduceLT, Int.reduceLE, Int.reduceEq, Int.reduceSub, Int.reduceAdd, Int.reduceMul, Bool.false_eq_true, Int.reduceToNat, Int.reducePow, Int.reduceMod, Int.reduceDiv, Nat.reduceMul, Nat.reduceSub, Nat.reduceLT, Nat.reduceLeDiff, Int.reduceNeg, webD, hl2] at hX
    rw [lcK_ hl, List.map_map, loopC_mapD (U.d ∘ pd) (fun _ => .bool true) R (by
      intro q hq
      have := p_is_ratio (h.rl.r q hq)
      simp only [evs, evl, evx, Bool.not_false, Bool.not_true, decide_true, decide_false, if_true, if_false, List.nil_append, List.cons_append, List.map_nil, List.map_cons, Int.toNat_natCast, Int.zero_add, List.length_cons, List.length_nil, Nat.reduceAdd, Int.cast_ofNat_Int, Int.reduceLT, Int.reduceLE, Int.reduceEq, Int.reduceSub, Int.reduceAdd, Int.reduceMul, Bool.false_eq_true, Int.reduceToNat, Int.reducePow, Int.reduceMod, Int.reduceDiv, Nat.reduceMul, Nat.reduceSub, Nat.reduceLT, Nat.reduceLeDiff, Int.reduceNeg, Function.comp_apply, this])] at hX
    simp only [evs, evl, evx, Bool.not_false, Bool.not_true, decide_true, decide_false, if_true, if_false, List.nil_append, List.cons_append, List.map_nil, List.map_cons, Int.toNat_natCast, Int.zero_add, List.length_cons, List.length_nil, Nat.reduceAdd, Int.cast_ofNat_Int, Int.reduceLT, Int.reduceLE, Int.reduceEq, Int.reduceSub, Int.reduceAdd, Int.reduceMul, Bool.false_eq_true, Int.reduceToNat, Int.reducePow, Int.reduceMod, Int.reduceDiv, Nat.reduceMul, Nat.reduceSub, Nat.reduceLT, Nat.reduceLeDiff, Int.reduceNeg, fAll_true] at hX
    subst hX; rfl
  simp only [phi_want_row, m_want_row, evs, evl, evx, Bool.not_false, Bool.not_true, decide_true, decide_false, if_true, if_false, List.nil_append, List.cons_append, List.map_nil, List.map_cons, Int.toNat_natCast, Int.zero_add, List.length_cons, List.length_nil, Nat.reduceAdd, Int.cast_ofNat_Int, Int.reduceLT, Int.reduceLE, Int.reduceEq, Int.reduceSub, Int.reduceAdd, Int.reduceMul, Bool.false_eq_true, Int.reduceToNat, Int.reducePow, Int.reduceMod, Int.reduceDiv, Nat.reduceMul, Nat.reduceSub, Nat.reduceLT, Nat.reduceLeDiff, Int.reduceNeg, p]
  rfl
theorem p_sum_at {n : Int} {ts R : List (Int × Int)} {k : Nat} {c : Int} (G : Good n ts) (h : RowOk ts R k) (hk : k ≤ 1000) (h0 : 0 ≤ c) (h1 : c < n) : phi_sum_at [.d (webD n ts), .d (.tuple (R.map pd)), .d (.int c)] = .ok (.d (pd (Rt.bare (atS ts (numsOf R (Rt.lcmL R 1)) c) (Rt.lcmL R 1)))) [.d (webD n ts), .d (.tuple (R.map pd)), .d (.int c)] := by
  obtain ⟨w0, w1⟩ := lcm_bd h.rl
  have e1 := p_want_web G
  have e2 := p_want_row G h
  have e3 := p_same_underT h.rl hk
  have e4 := p_at_of (ns := numsOf R (Rt.lcmL R 1)) (c := c) G
  have e5 := p_want_corner (ts := ts) h0 h1
  have e6 := p_bare_ratio (n := atS ts (numsOf R (Rt.lcmL R 1)) c) (u := Rt.lcmL R 1) (by omega) (zmono w1 (by omega))
  simp only [phi_sum_at, m_sum_at, evs, evl, evx, Bool.not_false, Bool.not_true, decide_true, decide_false, if_true, if_false, List.nil_append, List.cons_append, List.map_nil, List.map_cons, Int.toNat_natCast, Int.zero_add, List.length_cons, List.length_nil, Nat.reduceAdd, Int.cast_ofNat_Int, Int.reduceLT, Int.reduceLE, Int.reduceEq, Int.reduceSub, Int.reduceAdd, Int.reduceMul, Bool.false_eq_true, Int.reduceToNat, Int.reducePow, Int.reduceMod, Int.reduceDiv, Nat.reduceMul, Nat.reduceSub, Nat.reduceLT, Nat.reduceLeDiff, Int.reduceNeg, e1, e2, e3, e4, e5, e6]
  rfl
theorem posB_get {α : Type} (f : α → Bool) : ∀ (l : List α) (ns pre : List Int), ns.length = l.length → (posB f pre.length l).map (fun i => (pre ++ ns).getD i 0) = ((l.zip ns).filter fun x => f x.1).map Prod.snd
  | [], ns, pre, h => rfl
  | a :: l, [], pre, h => by simp at h
  | a :: l, m :: ns, pre, h => by
    have ih := posB_get f l ns (pre ++ [m]) (by simpa using h)
    rw [List.length_append, List.length_singleton, List.append_assoc] at ih
    rw [posB, List.zip_cons_cons, List.filter_cons]
    by_cases e : f a = true
    · rw [if_pos e, if_pos e, List.map_cons, List.map_cons]
      refine congr (congrArg _ ?_) ih
      simp
    · rw [if_neg e, if_neg e]; exact ih
theorem numsOf_len (R : List (Int × Int)) (w : Int) : (numsOf R w).length = R.length := by unfold numsOf; rw [List.length_map]
theorem p_sum_across {n : Int} {ts R : List (Int × Int)} {k : Nat} {C : List Int} (G : Good n ts) (h : RowOk ts R k) (hk : k ≤ 1000) (hC : CutOk n C) : phi_sum_across [.d (webD n ts), .d (.tuple (R.map pd)), .d (.tuple (C.map .int))] = .ok (.d (pd (Rt.bare (acS ts (numsOf R (Rt.lcmL R 1)) (acr C)) (Rt.lcmL R 1)))) [.d (webD n ts), .d (.tuple (R.map pd)), .d (.tuple (C.map .int))] := by
  obtain ⟨w0, w1⟩ := lcm_bd h.rl
  have e1 := p_want_web G
  have e2 := p_want_row G h
  have e3 := p_same_underT h.rl hk
  have e4 := p_want_cut G hC
  have e5 := p_across_of (C := C) G
  have e6 := p_bare_ratio (n := acS ts (numsOf R (Rt.lcmL R 1)) (acr C)) (u := Rt.lcmL R 1) (by omega) (zmono w1 (by omega))
  have nl : (numsOf R (Rt.lcmL R 1)).length = ts.length := by rw [numsOf_len, h.l]
  have hl : (((posB (acr C) 0 ts).map fun i : Nat => PyData.int (i : Nat)).map U.d).length ≤ 1000000 := by
    rw [posB_eq]
    have := List.length_filter_le (fun x : (Int × Int) × Nat => acr C x.1) (ts.zipIdx 0)
    have := G.len
    simp only [List.length_map, List.length_zipIdx] at *
    omega
  have es : (((posB (acr C) 0 ts).map fun i => (numsOf R (Rt.lcmL R 1)).getD i 0)).sum = acS ts (numsOf R (Rt.lcmL R 1)) (acr C) := congrArg List.sum (posB_get (acr C) ts (numsOf R (Rt.lcmL R 1)) [] nl)
  generalize hX : phi_sum_across _ = X
  simp only [phi_sum_across, m_sum_across, evs, evl, evx, Bool.not_false, Bool.not_true, decide_true, decide_false, if_true, if_false, List.nil_append, List.cons_append, List.map_nil, List.map_cons, Int.toNat_natCast, Int.zero_add, List.length_cons, List.length_nil, Nat.reduceAdd, Int.cast_ofNat_Int, Int.reduceLT, Int.reduceLE, Int.reduceEq, Int.reduceSub, Int.reduceAdd, Int.reduceMul, Bool.false_eq_true, Int.reduceToNat, Int.reducePow, Int.reduceMod, Int.reduceDiv, Nat.reduceMul, Nat.reduceSub, Nat.reduceLT, Nat.reduceLeDiff, Int.reduceNeg, e1, e2, e3, e4, e5] at hX
  rw [lcK_ hl, List.map_map, loopC_mapD _ (fun i : Nat => PyData.int ((numsOf R (Rt.lcmL R 1)).getD i 0)) (posB (acr C) 0 ts) (by
    intro i hi
    have b := posB_bd (acr C) ts 0 i hi
    have a : atI ((numsOf R (Rt.lcmL R 1)).map PyData.int) (i : Nat) = some (.int ((numsOf R (Rt.lcmL R 1)).getD i 0)) := atI_at (by omega) (by
      rw [Int.toNat_natCast, List.getElem?_map, List.getElem?_eq_getElem (by omega : i < _), List.getD_eq_getElem?_getD, List.getElem?_eq_getElem (by omega : i < _)]; rfl)
    simp only [evs, evl, evx, Bool.not_false, Bool.not_true, decide_true, decide_false, if_true, if_false, List.nil_append, List.cons_append, List.map_nil, List.map_cons, Int.toNat_natCast, Int.zero_add, List.length_cons, List.length_nil, Nat.reduceAdd, Int.cast_ofNat_Int, Int.reduceLT, Int.reduceLE, Int.reduceEq, Int.reduceSub, Int.reduceAdd, Int.reduceMul, Bool.false_eq_true, Int.reduceToNat, Int.reducePow, Int.reduceMod, Int.reduceDiv, Nat.reduceMul, Nat.reduceSub, Nat.reduceLT, Nat.reduceLeDiff, Int.reduceNeg, Function.comp_apply, a])] at hX
  rw [show (posB (acr C) 0 ts).map (fun i : Nat => PyData.int ((numsOf R (Rt.lcmL R 1)).getD i 0)) = ((posB (acr C) 0 ts).map fun i => (numsOf R (Rt.lcmL R 1)).getD i 0).map .int by rw [List.map_map]; rfl] at hX
  simp only [evs, evl, evx, Bool.not_false, Bool.not_true, decide_true, decide_false, if_true, if_false, List.nil_append, List.cons_append, List.map_nil, List.map_cons, Int.toNat_natCast, Int.zero_add, List.length_cons, List.length_nil, Nat.reduceAdd, Int.cast_ofNat_Int, Int.reduceLT, Int.reduceLE, Int.reduceEq, Int.reduceSub, Int.reduceAdd, Int.reduceMul, Bool.false_eq_true, Int.reduceToNat, Int.reducePow, Int.reduceMod, Int.reduceDiv, Nat.reduceMul, Nat.reduceSub, Nat.reduceLT, Nat.reduceLeDiff, Int.reduceNeg, toDs_map, fSum_ints, es, e6] at hX
  subst hX
  rfl
end PG
end
section
set_option autoImplicit false
set_option Elab.async false
set_option linter.all false
set_option maxRecDepth 100000
namespace PG
open PySem L2 PySem.W Vm
def firstL : Nat → List (List Int)
  | 0 => [[0]]
  | k + 1 => firstL k ++ (firstL k).map fun l => l ++ [((k + 1 : Nat) : Int)]
theorem firstL_len : ∀ k, (firstL k).length = 2 ^ k
  | 0 => rfl
  | k + 1 => by rw [firstL, List.length_append, List.length_map, firstL_len k, Nat.pow_succ]; omega
theorem firstL_bd : ∀ k, ∀ l ∈ firstL k, l ≠ [] ∧ l.length ≤ k + 1 ∧ ∀ c ∈ l, 0 ≤ c ∧ c ≤ (k : Int)
  | 0, l, h => by
    have : l = [0] := by simpa [firstL] using h
    subst this
    exact ⟨by simp, by simp, fun c hc => by have : c = 0 := by simpa using hc
                                            omega⟩
  | k + 1, l, h => by
    rw [firstL] at h
    rcases List.mem_append.mp h with h | h
    · obtain ⟨a, b, c⟩ := firstL_bd k l h
      exact ⟨a, by omega, fun x hx => by have := c x hx; omega⟩
    · obtain ⟨m, hm, rfl⟩ := List.mem_map.mp h
      obtain ⟨a, b, c⟩ := firstL_bd k m hm
      refine ⟨by simp, by rw [List.length_append, List.length_singleton]; omega, fun x hx => ?_⟩
      rcases List.mem_append.mp hx with hx | hx
      · have := c x hx; omega
      · have : x = ((k + 1 : Nat) : Int) := by simpa using hx
        omega
theorem alike_ints (a b : List Int) : PySem.W.alike (intT a) (intT b) = true := by
  unfold intT
  rw [PySem.W.alike]
  exact alikeAll_map a b
theorem srt_lots {L : List (List Int)} (h : ∀ l ∈ L, l ≠ []) : srtOk (L.map intT) = true := by
  unfold srtOk
  rw [Bool.and_eq_true, Bool.and_eq_true, Bool.or_eq_true]
  refine ⟨⟨?_, .inl ?_⟩, ?_⟩
  · unfold alAll
    rw [List.all_eq_true]
    intro x hx
    obtain ⟨a, _, rfl⟩ := List.mem_map.mp hx
    rw [List.all_eq_true]
    intro y hy
    obtain ⟨b, _, rfl⟩ := List.mem_map.mp hy
    exact alike_ints a b
  · rw [List.all_eq_true]
    intro x hx
    obtain ⟨a, ha, rfl⟩ := List.mem_map.mp hx
    have := h a ha
    cases a with
    | nil => exact absurd rfl this
    | cons i a => rfl
  · rw [List.all_eq_true]
    intro x hx
    obtain ⟨a, _, rfl⟩ := List.mem_map.mp hx
    show lev 8 (.tuple (a.map .int)) = true
    rw [show lev 8 (.tuple (a.map PyData.int)) = (a.map PyData.int).all (lev 7) from rfl, List.all_map, List.all_eq_true]
    exact fun _ _ => rfl
def wideB (n : Int) (l : List Int) : Bool := decide (2 ≤ (l.length : Int)) && decide ((l.length : Int) ≤ n - 2)
theorem p_wide (n : Int) (l : List Int) : phi_is_wide [.d (intT l), .d (.int n)] = .ok (.d (.bool (wideB n l))) [.d (intT l), .d (.int n)] := by
  have := p_is_wideT (l.map .int) n
  rw [List.length_map] at this
  exact this
theorem p_first_lots {n : Int} (h1 : 1 ≤ n) (h8 : n ≤ 12) : phi_first_lots [.d (.int n)] = .ok (.own (((firstL (n.toNat - 1)).map intT).map .d)) [.d (.int n)] := by
  have hbg : big62 n = true := big62_of (by omega) (by omega)
  obtain ⟨ς', e, x2, hς⟩ := loopF_rng (g := (gN 2)) (body := (mAsg (mAdd (mVar 1) (mLc [3] (mSrc (mVar 1)) (gN 3) mYes (mAdd (mVar 3) (mTup (mCons (mVar 2) mNil))))) (gN 1))) 1 (n - 1).toNat
    (fun k ς => ∃ x2 : Option U, ς = [some (.d (.int n)), some (.own (((firstL k).map intT).map .d)), x2, none])
    (ς := [some (.d (.int n)), some (.own (((firstL 0).map intT).map .d)), none, none])
    ⟨none, rfl⟩ (by
      rintro k hk ς ⟨x2, rfl⟩
      have hl : (((firstL k).map intT).map U.d).length ≤ 1000000 := itemsLen _ _ 2048 (by rw [firstL_len]; exact Nat.le_trans (Nat.pow_le_pow_right (by omega) (by omega : k ≤ 11)) (by decide)) (by omega)
      have hcat : ((firstL k).map intT).length + ((((firstL k).map fun l => l ++ [((k + 1 : Nat) : Int)]).map intT).map U.d).length ≤ sizeLine := by
        rw [sizeLine_eq]; simp only [List.length_map] at *; omega
      have c : ∀ {o : Option U}, loopC [3] (gN 3) mYes (mAdd (mVar 3) (mTup (mCons (mVar 2) mNil))) (((firstL k).map intT).map U.d) [] [some (.d (.int n)), o, some (.d (.int (1 + (k : Nat)))), none] = .ok (((((firstL k).map fun l => l ++ [((k + 1 : Nat) : Int)]).map intT)).map .d) [some (.d (.int n)), o, some (.d (.int (1 + (k : Nat)))), none] := fun {o} => by
        rw [List.map_map]
        refine (loopC_mapD _ (fun l => intT (l ++ [((k + 1 : Nat) : Int)])) (firstL k) fun l hl => ?_).trans ?_
        · have b := (firstL_bd k l hl).2.1
          have h2 : (l.map PyData.int).length + [PyData.int (1 + (k : Int))].length ≤ sizeLine := by rw [sizeLine_eq]; simp only [List.length_map, List.length_cons, List.length_nil]; omega
          have e : intT (l ++ [((k + 1 : Nat) : Int)]) = .tuple (l.map .int ++ [.int (1 + (k : Int))]) := by
            unfold intT; rw [List.map_append, show ((k + 1 : Nat) : Int) = 1 + (k : Int) by omega]; rfl
          rw [e]
          simp (disch := first | assumption | exact zSm (by repeat first | assumption | exact Vm.z1 | exact Vm.zm1 | exact Vm.z2 | exact Vm.z0 | with_reducible apply zmul | with_reducible apply zadd | with_reducible apply zsub | with_reducible apply zneg) (by first | decide | omega) | (simp only [sizeLine_eq, List.length_cons, List.length_nil, List.length_append, List.length_map, Nat.reduceAdd, Nat.reduceLT, Nat.reduceLeDiff]; done) | decide | rfl) only [evs, evl, evx, Bool.not_false, Bool.not_true, decide_true, decide_false, if_true, if_false, List.nil_append, List.cons_append, List.map_nil, List.map_cons, Int.toNat_natCast, Int.zero_add, List.length_cons, List.length_nil, Nat.reduceAdd, Int.cast_ofNat_Int, Int.reduceLT, Int.reduceLE, Int.reduceEq, Int.reduceSub, Int.reduceAdd, Int.reduceMul, Bool.false_eq_true, Int.reduceToNat, Int.reducePow, Int.reduceMod, Int.reduceDiv, Nat.reduceMul, Nat.reduceSub, Nat.reduceLT, Nat.reduceLeDiff, Int.reduceNeg, Function.comp_apply, intT]
        · simp only [List.map_map]; rfl
      generalize hX : stepF _ _ _ _ = X
      have hcat2 : (((firstL k).map intT).map U.d).length + ((((firstL k).map fun l => l ++ [((k + 1 : Nat) : Int)]).map intT).map U.d).length ≤ sizeLine := by
        rw [List.length_map]; exact hcat
      simp (disch := first | assumption | exact zSm (by repeat first | assumption | exact Vm.z1 | exact Vm.zm1 | exact Vm.z2 | exact Vm.z0 | with_reducible apply zmul | with_reducible apply zadd | with_reducible apply zsub | with_reducible apply zneg) (by first | decide | omega) | (simp only [sizeLine_eq, List.length_cons, List.length_nil, List.length_append, List.length_map, Nat.reduceAdd, Nat.reduceLT, Nat.reduceLeDiff]; done) | decide | rfl) only [evs, evl, evx, Bool.not_false, Bool.not_true, decide_true, decide_false, if_true, if_false, List.nil_append, List.cons_append, List.map_nil, List.map_cons, Int.toNat_natCast, Int.zero_add, List.length_cons, List.length_nil, Nat.reduceAdd, Int.cast_ofNat_Int, Int.reduceLT, Int.reduceLE, Int.reduceEq, Int.reduceSub, Int.reduceAdd, Int.reduceMul, Bool.false_eq_true, Int.reduceToNat, Int.reducePow, Int.reduceMod, Int.reduceDiv, Nat.reduceMul, Nat.reduceSub, Nat.reduceLT, Nat.reduceLeDiff, Int.reduceNeg, c, catB_ hcat2] at hX
      subst hX
      refine ⟨_, rfl, some (.d (.int (1 + (k : Int)))), ?_⟩
      rw [firstL, List.map_append, List.map_append])
  subst hς
  generalize hX : phi_first_lots _ = X
  simp (disch := first | assumption | exact zSm (by repeat first | assumption | exact Vm.z1 | exact Vm.zm1 | exact Vm.z2 | exact Vm.z0 | with_reducible apply zmul | with_reducible apply zadd | with_reducible apply zsub | with_reducible apply zneg) (by first | decide | omega) | (simp only [sizeLine_eq, List.length_cons, List.length_nil, List.length_append, List.length_map, Nat.reduceAdd, Nat.reduceLT, Nat.reduceLeDiff]; done) | decide | rfl) only [phi_first_lots, m_first_lots, evs, evl, evx, Bool.not_false, Bool.not_true, decide_true, decide_false, if_true, if_false, List.nil_append, List.cons_append, List.map_nil, List.map_cons, Int.toNat_natCast, Int.zero_add, List.length_cons, List.length_nil, Nat.reduceAdd, Int.cast_ofNat_Int, Int.reduceLT, Int.reduceLE, Int.reduceEq, Int.reduceSub, Int.reduceAdd, Int.reduceMul, Bool.false_eq_true, Int.reduceToNat, Int.reducePow, Int.reduceMod, Int.reduceDiv, Nat.reduceMul, Nat.reduceSub, Nat.reduceLT, Nat.reduceLeDiff, Int.reduceNeg, hbg] at hX
  rw [show loopF (gN 2) (mAsg (mAdd (mVar 1) (mLc [3] (mSrc (mVar 1)) (gN 3) mYes (mAdd (mVar 3) (mTup (mCons (mVar 2) mNil))))) (gN 1)) (rngU 1 (n - 1).toNat) [some (.d (.int n)), some (.own [.d (.tuple [.int 0])]), none, none] = _ from e, show (n - 1).toNat = n.toNat - 1 by omega] at hX
  simp (disch := first | assumption | exact zSm (by repeat first | assumption | exact Vm.z1 | exact Vm.zm1 | exact Vm.z2 | exact Vm.z0 | with_reducible apply zmul | with_reducible apply zadd | with_reducible apply zsub | with_reducible apply zneg) (by first | decide | omega) | (simp only [sizeLine_eq, List.length_cons, List.length_nil, List.length_append, List.length_map, Nat.reduceAdd, Nat.reduceLT, Nat.reduceLeDiff]; done) | decide | rfl) only [evs, evl, evx, Bool.not_false, Bool.not_true, decide_true, decide_false, if_true, if_false, List.nil_append, List.cons_append, List.map_nil, List.map_cons, Int.toNat_natCast, Int.zero_add, List.length_cons, List.length_nil, Nat.reduceAdd, Int.cast_ofNat_Int, Int.reduceLT, Int.reduceLE, Int.reduceEq, Int.reduceSub, Int.reduceAdd, Int.reduceMul, Bool.false_eq_true, Int.reduceToNat, Int.reducePow, Int.reduceMod, Int.reduceDiv, Nat.reduceMul, Nat.reduceSub, Nat.reduceLT, Nat.reduceLeDiff, Int.reduceNeg] at hX
  subst hX
  cases x2 <;> rfl
def cutsL (n : Int) : List (List Int) := (firstL (n.toNat - 1)).filter (wideB n)
theorem p_all_cuts {n : Int} {ts : List (Int × Int)} (G : Good n ts) (h8 : n ≤ 8) : phi_all_cuts [.d (webD n ts)] = .ok (.own ((sortD ((cutsL n).map intT)).map .d)) [.d (webD n ts)] := by
  have e1 := p_want_web G
  have n4 := G.n4
  have e2 := p_first_lots (n := n) (by omega) (by omega)
  have hl : (((firstL (n.toNat - 1)).map intT).map U.d).length ≤ 1000000 := itemsLen _ _ 2048 (by rw [firstL_len]; exact Nat.le_trans (Nat.pow_le_pow_right (by omega) (by omega : n.toNat - 1 ≤ 11)) (by decide)) (by omega)
  have c : ∀ {ς : List (Option U)}, ς = [some (.d (webD n ts)), some (.d (.int n)), none] → loopC [2] (gN 2) (mB (mCall phi_is_wide [] (mCons (mVar 2) (mCons (mVar 1) mNil)))) (mVar 2) (((firstL (n.toNat - 1)).map intT).map U.d) [] ς = .ok (((cutsL n).map intT).map .d) ς := fun {ς} h => by
    subst h
    rw [List.map_map]
    refine (loopC_filD _ (wideB n) intT (firstL (n.toNat - 1)) fun l hl => ?_).trans rfl
    have := p_wide n l
    generalize hY : stepC _ _ _ _ _ _ = Y
    simp (disch := first | assumption | exact zSm (by repeat first | assumption | exact Vm.z1 | exact Vm.zm1 | exact Vm.z2 | exact Vm.z0 | with_reducible apply zmul | with_reducible apply zadd | with_reducible apply zsub | with_reducible apply zneg) (by first | decide | omega) | (simp only [sizeLine_eq, List.length_cons, List.length_nil, List.length_append, List.length_map, Nat.reduceAdd, Nat.reduceLT, Nat.reduceLeDiff]; done) | decide | rfl) only [evs, evl, evx, Bool.not_false, Bool.not_true, decide_true, decide_false, if_true, if_false, List.nil_append, List.cons_append, List.map_nil, List.map_cons, Int.toNat_natCast, Int.zero_add, List.length_cons, List.length_nil, Nat.reduceAdd, Int.cast_ofNat_Int, Int.reduceLT, Int.reduceLE, Int.reduceEq, Int.reduceSub, Int.reduceAdd, Int.reduceMul, Bool.false_eq_true, Int.reduceToNat, Int.reducePow, Int.reduceMod, Int.reduceDiv, Nat.reduceMul, Nat.reduceSub, Nat.reduceLT, Nat.reduceLeDiff, Int.reduceNeg, Function.comp_apply, this] at hY
    subst hY
    cases wideB n l <;> simp (disch := first | assumption | exact zSm (by repeat first | assumption | exact Vm.z1 | exact Vm.zm1 | exact Vm.z2 | exact Vm.z0 | with_reducible apply zmul | with_reducible apply zadd | with_reducible apply zsub | with_reducible apply zneg) (by first | decide | omega) | (simp only [sizeLine_eq, List.length_cons, List.length_nil, List.length_append, List.length_map, Nat.reduceAdd, Nat.reduceLT, Nat.reduceLeDiff]; done) | decide | rfl) only [evs, evl, evx, Bool.not_false, Bool.not_true, decide_true, decide_false, if_true, if_false, List.nil_append, List.cons_append, List.map_nil, List.map_cons, Int.toNat_natCast, Int.zero_add, List.length_cons, List.length_nil, Nat.reduceAdd, Int.cast_ofNat_Int, Int.reduceLT, Int.reduceLE, Int.reduceEq, Int.reduceSub, Int.reduceAdd, Int.reduceMul, Bool.false_eq_true, Int.reduceToNat, Int.reducePow, Int.reduceMod, Int.reduceDiv, Nat.reduceMul, Nat.reduceSub, Nat.reduceLT, Nat.reduceLeDiff, Int.reduceNeg]
  have hs := srt_lots (L := cutsL n) fun l hl => (firstL_bd _ l (List.mem_filter.mp hl).1).1
  have a4 : phi_want_at_most [.d (.str "corners"), .d (.int 8), .d (.int n)] = .ok (.d .none) [.d (.str "corners"), .d (.int 8), .d (.int n)] := by
    have h : ¬ n > 8 := by omega
    simp (disch := first | assumption | exact zSm (by repeat first | assumption | exact Vm.z1 | exact Vm.zm1 | exact Vm.z2 | exact Vm.z0 | with_reducible apply zmul | with_reducible apply zadd | with_reducible apply zsub | with_reducible apply zneg) (by first | decide | omega) | (simp only [sizeLine_eq, List.length_cons, List.length_nil, List.length_append, List.length_map, Nat.reduceAdd, Nat.reduceLT, Nat.reduceLeDiff]; done) | decide | rfl) only [phi_want_at_most, m_want_at_most, evs, evl, evx, Bool.not_false, Bool.not_true, decide_true, decide_false, if_true, if_false, List.nil_append, List.cons_append, List.map_nil, List.map_cons, Int.toNat_natCast, Int.zero_add, List.length_cons, List.length_nil, Nat.reduceAdd, Int.cast_ofNat_Int, Int.reduceLT, Int.reduceLE, Int.reduceEq, Int.reduceSub, Int.reduceAdd, Int.reduceMul, Bool.false_eq_true, Int.reduceToNat, Int.reducePow, Int.reduceMod, Int.reduceDiv, Nat.reduceMul, Nat.reduceSub, Nat.reduceLT, Nat.reduceLeDiff, Int.reduceNeg, h]
    rfl
  have td := toDs_map ((cutsL n).map intT)
  generalize hX : phi_all_cuts _ = X
  simp only [webD] at *
  simp (disch := first | assumption | exact zSm (by repeat first | assumption | exact Vm.z1 | exact Vm.zm1 | exact Vm.z2 | exact Vm.z0 | with_reducible apply zmul | with_reducible apply zadd | with_reducible apply zsub | with_reducible apply zneg) (by first | decide | omega) | (simp only [sizeLine_eq, List.length_cons, List.length_nil, List.length_append, List.length_map, Nat.reduceAdd, Nat.reduceLT, Nat.reduceLeDiff]; done) | decide | rfl) only [phi_all_cuts, m_all_cuts, evs, evl, evx, Bool.not_false, Bool.not_true, decide_true, decide_false, if_true, if_false, List.nil_append, List.cons_append, List.map_nil, List.map_cons, Int.toNat_natCast, Int.zero_add, List.length_cons, List.length_nil, Nat.reduceAdd, Int.cast_ofNat_Int, Int.reduceLT, Int.reduceLE, Int.reduceEq, Int.reduceSub, Int.reduceAdd, Int.reduceMul, Bool.false_eq_true, Int.reduceToNat, Int.reducePow, Int.reduceMod, Int.reduceDiv, Nat.reduceMul, Nat.reduceSub, Nat.reduceLT, Nat.reduceLeDiff, Int.reduceNeg, e1, a4, e2, lcK_ hl, c, td, srtK_ hs] at hX
  trace_state
  subst hX
  rfl
structure RiseLot (n : Int) (l : List Int) : Prop where
  rng : ∀ c ∈ l, 0 ≤ c ∧ c < n
  srt : l.Pairwise (· < ·)
def isCutB (n : Int) (l : List Int) : Bool := decide (l.head? = some 0) && wideB n l
theorem RiseLot.cut {n : Int} {l : List Int} (h : RiseLot n l) (hb : isCutB n l = true) : CutOk n l := by
  unfold isCutB wideB at hb
  rw [Bool.and_eq_true, Bool.and_eq_true] at hb
  exact ⟨of_decide_eq_true hb.1, h.rng, h.srt, by have := of_decide_eq_true hb.2.1; omega, of_decide_eq_true hb.2.2⟩
theorem p_is_cut_ofB {n : Int} {ts : List (Int × Int)} {C : List Int} (G : Good n ts) (h : RiseLot n C) : phi_is_cut_of [.d (webD n ts), .d (.tuple (C.map .int))] = .ok (.d (.bool (isCutB n C))) [.d (webD n ts), .d (.tuple (C.map .int))] := by
  have n12 := G.n12
  have w := p_wide n C
  unfold intT at w
  by_cases hw : wideB n C = true
  · have hw2 := hw
    unfold wideB at hw2
    rw [Bool.and_eq_true] at hw2
    have l2 := of_decide_eq_true hw2.1
    have l3 := of_decide_eq_true hw2.2
    rw [hw] at w
    by_cases hc : C.head? = some 0
    · have hb : isCutB n C = true := by unfold isCutB; rw [hw, decide_eq_true hc]; rfl
      rw [hb]
      exact p_is_cut_of G (h.cut hb)
    · have hb : isCutB n C = false := by unfold isCutB; rw [decide_eq_false hc]; rfl
      rw [hb]
      have hl : ((C.map PyData.int).map U.d).length ≤ 1000000 := itemsLen _ _ 12 (by omega) (by omega)
      obtain ⟨a, c0, ha⟩ : ∃ a, atI (C.map PyData.int) 0 = some (.int a) ∧ ¬ a = 0 := by
        cases C with
        | nil => simp at l2
        | cons a C' => exact ⟨a, atI_at (by omega) rfl, fun e => hc (by rw [e]; rfl)⟩
      generalize hX : phi_is_cut_of _ = X
      simp only [phi_is_cut_of, m_is_cut_of, evs, evl, evx, Bool.not_false, Bool.not_true, decide_true, decide_false, if_true, if_false, List.nil_append, List.cons_append, List.map_nil, List.map_cons, Int.toNat_natCast, Int.zero_add, List.length_cons, List.length_nil, Nat.reduceAdd, Int.cast_ofNat_Int, Int.reduceLT, Int.reduceLE, Int.reduceEq, Int.reduceSub, Int.reduceAdd, Int.reduceMul, Bool.false_eq_true, Int.reduceToNat, Int.reducePow, Int.reduceMod, Int.reduceDiv, Nat.reduceMul, Nat.reduceSub, Nat.reduceLT, Nat.reduceLeDiff, Int.reduceNeg, webD, w] at hX
      rw [lcK_ hl, List.map_map, loopC_mapD (U.d ∘ PyData.int) (fun _ => .bool true) C (by
        intro c hc
        have r := h.rng c hc
        have p := p_is_from_to (i := c) (a := 0) (b := n - 1) r.1 (by omega)
        simp only [evs, evl, evx, Bool.not_false, Bool.not_true, decide_true, decide_false, if_true, if_false, List.nil_append, List.cons_append, List.map_nil, List.map_cons, Int.toNat_natCast, Int.zero_add, List.length_cons, List.length_nil, Nat.reduceAdd, Int.cast_ofNat_Int, Int.reduceLT, Int.reduceLE, Int.reduceEq, Int.reduceSub, Int.reduceAdd, Int.reduceMul, Bool.false_eq_true, Int.reduceToNat, Int.reducePow, Int.reduceMod, Int.reduceDiv, Nat.reduceMul, Nat.reduceSub, Nat.reduceLT, Nat.reduceLeDiff, Int.reduceNeg, Function.comp_apply, p])] at hX
      simp only [evs, evl, evx, Bool.not_false, Bool.not_true, decide_true, decide_false, if_true, if_false, List.nil_append, List.cons_append, List.map_nil, List.map_cons, Int.toNat_natCast, Int.zero_add, List.length_cons, List.length_nil, Nat.reduceAdd, Int.cast_ofNat_Int, Int.reduceLT, Int.reduceLE, Int.reduceEq, Int.reduceSub, Int.reduceAdd, Int.reduceMul, Bool.false_eq_true, Int.reduceToNat, Int.reducePow, Int.reduceMod, Int.reduceDiv, Nat.reduceMul, Nat.reduceSub, Nat.reduceLT, Nat.reduceLeDiff, Int.reduceNeg, fAll_true, c0, ha] at hX
      subst hX; rfl
  · have hw := Bool.eq_false_iff.mpr hw
    have hb : isCutB n C = false := by unfold isCutB; rw [hw, Bool.and_false]
    rw [hb]
    rw [hw] at w
    simp only [phi_is_cut_of, m_is_cut_of, evs, evl, evx, Bool.not_false, Bool.not_true, decide_true, decide_false, if_true, if_false, List.nil_append, List.cons_append, List.map_nil, List.map_cons, Int.toNat_natCast, Int.zero_add, List.length_cons, List.length_nil, Nat.reduceAdd, Int.cast_ofNat_Int, Int.reduceLT, Int.reduceLE, Int.reduceEq, Int.reduceSub, Int.reduceAdd, Int.reduceMul, Bool.false_eq_true, Int.reduceToNat, Int.reducePow, Int.reduceMod, Int.reduceDiv, Nat.reduceMul, Nat.reduceSub, Nat.reduceLT, Nat.reduceLeDiff, Int.reduceNeg, webD, w]
    rfl
theorem p_is_cutB {n : Int} {ts : List (Int × Int)} {C : List Int} (G : Good n ts) (h : RiseLot n C) : phi_is_cut [.d (webD n ts), .d (.tuple (C.map .int))] = .ok (.d (.bool (isCutB n C))) [.d (webD n ts), .d (.tuple (C.map .int))] := by
  simp only [phi_is_cut, m_is_cut, evs, evl, evx, Bool.not_false, Bool.not_true, decide_true, decide_false, if_true, if_false, List.nil_append, List.cons_append, List.map_nil, List.map_cons, Int.toNat_natCast, Int.zero_add, List.length_cons, List.length_nil, Nat.reduceAdd, Int.cast_ofNat_Int, Int.reduceLT, Int.reduceLE, Int.reduceEq, Int.reduceSub, Int.reduceAdd, Int.reduceMul, Bool.false_eq_true, Int.reduceToNat, Int.reducePow, Int.reduceMod, Int.reduceDiv, Nat.reduceMul, Nat.reduceSub, Nat.reduceLT, Nat.reduceLeDiff, Int.reduceNeg, p_want_web G, p_is_cut_ofB G h]
  rfl
theorem p_is_cutL {n : Int} {ts : List (Int × Int)} {xs : List PyData} (G : Good n ts) : phi_is_cut [.d (webD n ts), .own (xs.map .d)] = .ok (.d (.bool false)) [.d (webD n ts), .own (xs.map .d)] := by
  have e : phi_is_cut_of [.d (webD n ts), .own (xs.map .d)] = .ok (.d (.bool false)) [.d (webD n ts), .own (xs.map .d)] := by
    simp only [phi_is_cut_of, m_is_cut_of, evs, evl, evx, Bool.not_false, Bool.not_true, decide_true, decide_false, if_true, if_false, List.nil_append, List.cons_append, List.map_nil, List.map_cons, Int.toNat_natCast, Int.zero_add, List.length_cons, List.length_nil, Nat.reduceAdd, Int.cast_ofNat_Int, Int.reduceLT, Int.reduceLE, Int.reduceEq, Int.reduceSub, Int.reduceAdd, Int.reduceMul, Bool.false_eq_true, Int.reduceToNat, Int.reducePow, Int.reduceMod, Int.reduceDiv, Nat.reduceMul, Nat.reduceSub, Nat.reduceLT, Nat.reduceLeDiff, Int.reduceNeg, toDs_map]
    rfl
  simp only [phi_is_cut, m_is_cut, evs, evl, evx, Bool.not_false, Bool.not_true, decide_true, decide_false, if_true, if_false, List.nil_append, List.cons_append, List.map_nil, List.map_cons, Int.toNat_natCast, Int.zero_add, List.length_cons, List.length_nil, Nat.reduceAdd, Int.cast_ofNat_Int, Int.reduceLT, Int.reduceLE, Int.reduceEq, Int.reduceSub, Int.reduceAdd, Int.reduceMul, Bool.false_eq_true, Int.reduceToNat, Int.reducePow, Int.reduceMod, Int.reduceDiv, Nat.reduceMul, Nat.reduceSub, Nat.reduceLT, Nat.reduceLeDiff, Int.reduceNeg, p_want_web G, e]
  rfl
theorem p_across {n : Int} {ts : List (Int × Int)} {C : List Int} (G : Good n ts) (h : CutOk n C) : phi_across [.d (webD n ts), .d (.tuple (C.map .int))] = .ok (.own (((posB (acr C) 0 ts).map fun i : Nat => PyData.int (i : Nat)).map .d)) [.d (webD n ts), .d (.tuple (C.map .int))] := by
  simp only [phi_across, m_across, evs, evl, evx, Bool.not_false, Bool.not_true, decide_true, decide_false, if_true, if_false, List.nil_append, List.cons_append, List.map_nil, List.map_cons, Int.toNat_natCast, Int.zero_add, List.length_cons, List.length_nil, Nat.reduceAdd, Int.cast_ofNat_Int, Int.reduceLT, Int.reduceLE, Int.reduceEq, Int.reduceSub, Int.reduceAdd, Int.reduceMul, Bool.false_eq_true, Int.reduceToNat, Int.reducePow, Int.reduceMod, Int.reduceDiv, Nat.reduceMul, Nat.reduceSub, Nat.reduceLT, Nat.reduceLeDiff, Int.reduceNeg, p_want_web G, p_want_cut G h, p_across_of G]
  rfl
theorem head_eq (l : List Int) : fEq (.tuple ((l.map PyData.int).take 1)) (.tuple [.int 0]) = some (.bool (decide (l.head? = some 0))) := by
  cases l with
  | nil => rfl
  | cons a l =>
    refine (show fEq (.tuple [.int a]) (.tuple [.int 0]) = some (.bool (decide (a = 0))) from ?_).trans (by simp)
    unfold fEq
    rw [if_pos (show lev 8 (.tuple [.int a]) = true from rfl)]
    by_cases h : a = 0
    · subst h; rfl
    · rw [decide_eq_false h]
      simp [PyData.eqv, PyData.eqvAll, h]
end PG
end
section
set_option autoImplicit false
set_option Elab.async false
set_option linter.all false
set_option maxRecDepth 100000
namespace K33
open PySem L2 PySem.W Vm PG
theorem p__law_draw (a b m : Int) (ha : 0 ≤ a) (hb : 0 ≤ b) (hb2 : b < 4294967296) (hm : 1 ≤ m) (hm2 : m < 1073741824) :
    ∃ v a' b', phi__law_draw [.own [.d (.int a), .d (.int b)], .d (.int m)] = .ok (.d (.int v)) [.own [.d (.int a'), .d (.int b')], .d (.int m)] ∧ 0 ≤ v ∧ v < m ∧ 0 ≤ a' ∧ 0 ≤ b' ∧ b' < 4294967296 := by
  have hm0 : 0 < m := by omega
  by_cases h : 0 < a
  · refine ⟨a % m, a / m, b, ?_, Int.emod_nonneg _ (by omega), Int.emod_lt_of_pos _ (by omega), Int.ediv_nonneg ha (by omega), hb, hb2⟩
    simp only [phi__law_draw, m__law_draw, evs, evl, evx, Bool.not_false, Bool.not_true, decide_true, decide_false, if_true, if_false, List.nil_append, List.cons_append, List.map_nil, List.map_cons, Int.toNat_natCast, Int.zero_add, List.length_cons, List.length_nil, Nat.reduceAdd, Int.cast_ofNat_Int, Int.reduceLT, Int.reduceLE, Int.reduceEq, Int.reduceSub, Int.reduceAdd, Int.reduceMul, Bool.false_eq_true, Int.reduceToNat, Int.reducePow, Int.reduceMod, Int.reduceDiv, Nat.reduceMul, Nat.reduceSub, Nat.reduceLT, Nat.reduceLeDiff, Int.reduceNeg, h, hm0, hm2]
    rfl
  · have c0 := Sm.lo (i := b) (by omega) (by omega)
    have c1 := Sm.lo (i := 40014) (by omega) (by omega)
    have c2 : 0 ≤ (b * 40014 + 1109) % 2147483563 := Int.emod_nonneg _ (by omega)
    have c3 : (b * 40014 + 1109) % 2147483563 < 2147483563 := Int.emod_lt_of_pos _ (by omega)
    have c4 := Sm.lo (i := (b * 40014 + 1109) % 2147483563) (by omega) (by omega)
    have c5 : (21 : Int).natAbs.log2 < 9000 := by decide +kernel
    refine ⟨_, a, (b * 40014 + 1109) % 2147483563, ?_, Int.emod_nonneg ((b * 40014 + 1109) % 2147483563 * ((b * 40014 + 1109) % 2147483563) % 2147483587 / 21) (by omega), Int.emod_lt_of_pos _ (by omega), ha, c2, by omega⟩
    simp only [phi__law_draw, m__law_draw, evs, evl, evx, Bool.not_false, Bool.not_true, decide_true, decide_false, if_true, if_false, List.nil_append, List.cons_append, List.map_nil, List.map_cons, Int.toNat_natCast, Int.zero_add, List.length_cons, List.length_nil, Nat.reduceAdd, Int.cast_ofNat_Int, Int.reduceLT, Int.reduceLE, Int.reduceEq, Int.reduceSub, Int.reduceAdd, Int.reduceMul, Bool.false_eq_true, Int.reduceToNat, Int.reducePow, Int.reduceMod, Int.reduceDiv, Nat.reduceMul, Nat.reduceSub, Nat.reduceLT, Nat.reduceLeDiff, Int.reduceNeg, h, hm0, hm2, c0, c1, c4, c5]
    rfl
def Dr (p : U) : Prop := ∃ a b : Int, p = .own [.d (.int a), .d (.int b)] ∧ 0 ≤ a ∧ 0 ≤ b ∧ b < 4294967296
theorem p_draw (p : U) (hp : Dr p) (m : Int) (hm : 1 ≤ m) (hm2 : m < 1073741824) :
    ∃ v p', phi__law_draw [p, .d (.int m)] = .ok (.d (.int v)) [p', .d (.int m)] ∧ 0 ≤ v ∧ v < m ∧ Dr p' := by
  obtain ⟨a, b, rfl, ha, hb, hb2⟩ := hp
  obtain ⟨v, a', b', e, h1, h2, h3, h4, h5⟩ := p__law_draw a b m ha hb hb2 hm hm2
  exact ⟨v, _, e, h1, h2, a', b', rfl, h3, h4, h5⟩
theorem p_pot (ns : List Int) : ∃ p, phi__law_pot [.d (.list (ns.map .int)), .d (.int 0)] = .ok p [.d (.list (ns.map .int)), .d (.int 0)] ∧ Dr p := by
  have c1 := Sm.lo (i := 41113) (by omega) (by omega)
  have c2 := Sm.lo (i := 4021) (by omega) (by omega)
  have c3 := Sm.lo (i := 0) (by omega) (by omega)
  have c4 := Sm.lo (i := 1013) (by omega) (by omega)
  have e18 : (10 : Int) ^ (18 : Int).toNat = 1000000000000000000 := by decide +kernel
  have c6 : (10 : Int).natAbs < 2 ^ 64 := by decide +kernel
  cases ns with
  | nil =>
    refine ⟨.own [.d (.int 0), .d (.int ((653 * 41113 + 661) % 2147483563 + 1))], ?_, 0, _, rfl, by omega, by omega, by omega⟩
    have c5 := Sm.lo (i := 653 % 2147483549) (by omega) (by omega)
    simp only [phi__law_pot, m__law_pot, evs, evl, evx, Bool.not_false, Bool.not_true, decide_true, decide_false, if_true, if_false, List.nil_append, List.cons_append, List.map_nil, List.map_cons, Int.toNat_natCast, Int.zero_add, List.length_cons, List.length_nil, Nat.reduceAdd, Int.cast_ofNat_Int, Int.reduceLT, Int.reduceLE, Int.reduceEq, Int.reduceSub, Int.reduceAdd, Int.reduceMul, Bool.false_eq_true, Int.reduceToNat, Int.reducePow, Int.reduceMod, Int.reduceDiv, Nat.reduceMul, Nat.reduceSub, Nat.reduceLT, Nat.reduceLeDiff, Int.reduceNeg, c1, c2, c3, c4, c5, c6, e18]
    rfl
  | cons x xs =>
    have c5 := Sm.lo (i := (if x < 0 then -x else x) % 2147483549) (by omega) (by omega)
    have hl : decide ((0 : Int) < ((xs.length + 1 : Nat) : Int)) = true := decide_eq_true (by omega)
    refine ⟨.own [.d (.int (if (if x < 0 then -x else x) - 1000000000000000000 > 0 then (if x < 0 then -x else x) - 1000000000000000000 else 0)), .d (.int (((if x < 0 then -x else x) % 2147483549 * 41113 + 4021 * 0 + 661) % 2147483563 + 1))], ?_, _, _, rfl, ?_, ?_, ?_⟩
    · simp only [phi__law_pot, m__law_pot, evs, evl, evx, Bool.not_false, Bool.not_true, decide_true, decide_false, if_true, if_false, List.nil_append, List.cons_append, List.map_nil, List.map_cons, Int.toNat_natCast, Int.zero_add, List.length_cons, List.length_nil, Nat.reduceAdd, Int.cast_ofNat_Int, Int.reduceLT, Int.reduceLE, Int.reduceEq, Int.reduceSub, Int.reduceAdd, Int.reduceMul, Bool.false_eq_true, Int.reduceToNat, Int.reducePow, Int.reduceMod, Int.reduceDiv, Nat.reduceMul, Nat.reduceSub, Nat.reduceLT, Nat.reduceLeDiff, Int.reduceNeg, c1, c2, c3, c4, c5, c6, e18, List.length_map, hl]
      rfl
    · split <;> omega
    · omega
    · omega
theorem p_web (p : U) (hp : Dr p) (most : Int) (h7 : 7 ≤ most) (h12 : most ≤ 12) : ∃ n ts p', phi__law_web [p, .d (.int most)] = .ok (.d (webD n ts)) [p', .d (.int most)] ∧ Good n ts ∧ n ≤ most ∧ (ts.length : Int) ≤ 12 * n ∧ Dr p' := by
  obtain ⟨v1, p1, e1, l1, u1, hp1⟩ := p_draw p hp (most - 3) (by omega) (by omega)
  obtain ⟨v2, p2, e2, l2, u2, hp2⟩ := p_draw p1 hp1 3 (by omega) (by omega)
  have hb : big62 (4 + v1) = true := big62_of (by omega) (by omega)
  obtain ⟨ς', e, p', ts, x5, x6, hς, hp', hr, hc, hl⟩ := loopF_nat (g := (gN 5)) (body := (mFor (mRng2 (mCons (mAdd (mVar 5) (mC (.int 1))) (mCons (mVar 2) mNil))) (gN 6) (mIf (mTs fLe (mCall phi__law_draw [] (mCons (mVar 0) (mCons (mC (.int 4)) mNil))) (mVar 4)) (mExpr (mMut mkAppend (pN 3) (mCons (mTup (mCons (mVar 5) (mCons (mVar 6) mNil))) mNil))) mNext))) (4 + v1).toNat
    (fun f ς => ∃ (p : U) (ts : List (Int × Int)) (x5 x6 : Option U), ς = [some (p), some (.d (.int most)), some (.d (.int (4 + v1))), some (.own ((ts.map pd).map .d)), some (.d (.int (1 + v2))), x5, x6] ∧ Dr p ∧ (∀ q ∈ ts, 0 ≤ q.1 ∧ q.1 < q.2 ∧ q.2 < 4 + v1 ∧ q.1 < (f : Nat)) ∧ ts.Pairwise lx ∧ ts.length ≤ 12 * f)
    (ς := [some (p2), some (.d (.int most)), some (.d (.int (4 + v1))), some (.own []), some (.d (.int (1 + v2))), none, none])
    ⟨p2, [], none, none, rfl, hp2, by simp, List.Pairwise.nil, by simp⟩ (by
      rintro f hf ς ⟨p, ts, x5, x6, rfl, hp, hr, hc, hl⟩
      have hbf : big62 ((f : Int) + 1) = true := big62_of (by omega) (by omega)
      obtain ⟨ς', e, p', ts', x6', hς, hp', hr', hc', hl'⟩ := loopF_rng (g := (gN 6)) (body := (mIf (mTs fLe (mCall phi__law_draw [] (mCons (mVar 0) (mCons (mC (.int 4)) mNil))) (mVar 4)) (mExpr (mMut mkAppend (pN 3) (mCons (mTup (mCons (mVar 5) (mCons (mVar 6) mNil))) mNil))) mNext)) ((f : Int) + 1) (4 + v1 - ((f : Int) + 1)).toNat
        (fun k ς => ∃ (p : U) (ts : List (Int × Int)) (x6 : Option U), ς = [some (p), some (.d (.int most)), some (.d (.int (4 + v1))), some (.own ((ts.map pd).map .d)), some (.d (.int (1 + v2))), some (.d (.int (f : Nat))), x6] ∧ Dr p ∧ (∀ q ∈ ts, 0 ≤ q.1 ∧ q.1 < q.2 ∧ q.2 < 4 + v1 ∧ (q.1 < (f : Nat) ∨ (q.1 = (f : Nat) ∧ q.2 < (f : Int) + 1 + (k : Nat)))) ∧ ts.Pairwise lx ∧ ts.length ≤ 12 * f + k)
        (ς := [some (p), some (.d (.int most)), some (.d (.int (4 + v1))), some (.own ((ts.map pd).map .d)), some (.d (.int (1 + v2))), some (.d (.int (f : Nat))), x6])
        ⟨p, ts, x6, rfl, hp, fun q hq => by have := hr q hq; omega, hc, by omega⟩ (by
          rintro k hk ς ⟨p, ts, x6, rfl, hp, hr, hc, hl⟩
          obtain ⟨a, b, rfl, ha, hb1, hb2⟩ := hp
          obtain ⟨v, p', e3, l3, u3, hp'⟩ := p_draw _ ⟨a, b, rfl, ha, hb1, hb2⟩ 4 (by omega) (by omega)
          by_cases hv : v ≤ 1 + v2
          · have hap : mkAppend (.own ((ts.map pd).map .d)) [.d (.tuple [.int (f : Nat), .int ((f : Int) + 1 + (k : Nat))])] = some (.d .none, .own (((ts ++ [((f : Int), (f : Int) + 1 + (k : Nat))]).map pd).map .d)) := by
              rw [mkAppend_ (by simp only [List.length_map]; omega)]
              simp [pd]
            refine ⟨_, ?_, p', ts ++ [((f : Int), (f : Int) + 1 + (k : Nat))], some (.d (.int ((f : Int) + 1 + (k : Nat)))), rfl, hp', ?_, ?_, ?_⟩
            · simp only [evs, evl, evx, Bool.not_false, Bool.not_true, decide_true, decide_false, if_true, if_false, List.nil_append, List.cons_append, List.map_nil, List.map_cons, Int.toNat_natCast, Int.zero_add, List.length_cons, List.length_nil, Nat.reduceAdd, Int.cast_ofNat_Int, Int.reduceLT, Int.reduceLE, Int.reduceEq, Int.reduceSub, Int.reduceAdd, Int.reduceMul, Bool.false_eq_true, Int.reduceToNat, Int.reducePow, Int.reduceMod, Int.reduceDiv, Nat.reduceMul, Nat.reduceSub, Nat.reduceLT, Nat.reduceLeDiff, Int.reduceNeg, e3, hv, hap]
            · intro q hq
              rcases List.mem_append.mp hq with h | h
              · have := hr q h; omega
              · have : q = ((f : Int), (f : Int) + 1 + (k : Nat)) := by simpa using h
                subst this
                show 0 ≤ (f : Int) ∧ (f : Int) < (f : Int) + 1 + (k : Int) ∧ (f : Int) + 1 + (k : Int) < 4 + v1 ∧ ((f : Int) < (f : Int) ∨ ((f : Int) = (f : Int) ∧ (f : Int) + 1 + (k : Int) < (f : Int) + 1 + ((k + 1 : Nat) : Int)))
                omega
            · rw [List.pairwise_append]
              refine ⟨hc, List.pairwise_singleton .., fun q hq q' hq' => ?_⟩
              have : q' = ((f : Int), (f : Int) + 1 + (k : Nat)) := by simpa using hq'
              subst this
              have := hr q hq
              unfold lx
              simp only
              omega
            · rw [List.length_append]
              simp only [List.length_cons, List.length_nil]
              omega
          · refine ⟨_, ?_, p', ts, some (.d (.int ((f : Int) + 1 + (k : Nat)))), rfl, hp', ?_, hc, by omega⟩
            · simp only [evs, evl, evx, Bool.not_false, Bool.not_true, decide_true, decide_false, if_true, if_false, List.nil_append, List.cons_append, List.map_nil, List.map_cons, Int.toNat_natCast, Int.zero_add, List.length_cons, List.length_nil, Nat.reduceAdd, Int.cast_ofNat_Int, Int.reduceLT, Int.reduceLE, Int.reduceEq, Int.reduceSub, Int.reduceAdd, Int.reduceMul, Bool.false_eq_true, Int.reduceToNat, Int.reducePow, Int.reduceMod, Int.reduceDiv, Nat.reduceMul, Nat.reduceSub, Nat.reduceLT, Nat.reduceLeDiff, Int.reduceNeg, e3, hv]
            · intro q hq
              have := hr q hq
              omega)
      refine ⟨ς', ?_, p', ts', some (.d (.int (f : Nat))), x6', hς, hp', ?_, hc', by omega⟩
      · simp only [evs, evl, evx, Bool.not_false, Bool.not_true, decide_true, decide_false, if_true, if_false, List.nil_append, List.cons_append, List.map_nil, List.map_cons, Int.toNat_natCast, Int.zero_add, List.length_cons, List.length_nil, Nat.reduceAdd, Int.cast_ofNat_Int, Int.reduceLT, Int.reduceLE, Int.reduceEq, Int.reduceSub, Int.reduceAdd, Int.reduceMul, Bool.false_eq_true, Int.reduceToNat, Int.reducePow, Int.reduceMod, Int.reduceDiv, Nat.reduceMul, Nat.reduceSub, Nat.reduceLT, Nat.reduceLeDiff, Int.reduceNeg, hb, hbf]
        rw [e]
        rfl
      · intro q hq
        have := hr' q hq
        omega)
  obtain ⟨a, b, rfl, ha, hb1, hb2⟩ := hp
  obtain ⟨a', b', rfl, ha', hb1', hb2'⟩ := hp1
  refine ⟨4 + v1, ts, p', ?_, ⟨by omega, by omega, fun q hq => by have := hr q hq; omega, hc, by omega⟩, by omega, by omega, hp'⟩
  simp only [phi__law_web, m__law_web, evs, evl, evx, Bool.not_false, Bool.not_true, decide_true, decide_false, if_true, if_false, List.nil_append, List.cons_append, List.map_nil, List.map_cons, Int.toNat_natCast, Int.zero_add, List.length_cons, List.length_nil, Nat.reduceAdd, Int.cast_ofNat_Int, Int.reduceLT, Int.reduceLE, Int.reduceEq, Int.reduceSub, Int.reduceAdd, Int.reduceMul, Bool.false_eq_true, Int.reduceToNat, Int.reducePow, Int.reduceMod, Int.reduceDiv, Nat.reduceMul, Nat.reduceSub, Nat.reduceLT, Nat.reduceLeDiff, Int.reduceNeg, e1, e2, hb]
  rw [e, hς]
  obtain ⟨a2, b2, rfl, ha2, hb2, hb2'⟩ := hp'
  simp only [evs, evl, evx, Bool.not_false, Bool.not_true, decide_true, decide_false, if_true, if_false, List.nil_append, List.cons_append, List.map_nil, List.map_cons, Int.toNat_natCast, Int.zero_add, List.length_cons, List.length_nil, Nat.reduceAdd, Int.cast_ofNat_Int, Int.reduceLT, Int.reduceLE, Int.reduceEq, Int.reduceSub, Int.reduceAdd, Int.reduceMul, Bool.false_eq_true, Int.reduceToNat, Int.reducePow, Int.reduceMod, Int.reduceDiv, Nat.reduceMul, Nat.reduceSub, Nat.reduceLT, Nat.reduceLeDiff, Int.reduceNeg]
  rfl
end K33
end
section
set_option autoImplicit false
set_option Elab.async false
set_option linter.all false
set_option maxRecDepth 100000
namespace K33
open PySem L2 PySem.W Vm PG
theorem ev_rng3 {ms : Vm.Env → Res (List Rv)} {ς : List (Option U)} : mRng3 ms ς = (ms ς).bind kRng3 := rfl
def rngK3 (ς : List (Option U)) : Option (List PyData) → Res (List U)
  | some [.int i, .int j, .int c] => if rcOk i j c then .ok (rngC i c (Builtin.Range.rangeSize i j c).toNat) ς else .stuck
  | _ => .stuck
theorem ev_kRng3 {rs : List Rv} {ς : List (Option U)} : kRng3 rs ς = rngK3 ς (peeks ς rs) := by
  unfold kRng3 rngK3
  rfl
theorem rngK3_ {ς : List (Option U)} {i j c : Int} (h : rcOk i j c = true) : rngK3 ς (some [.int i, .int j, .int c]) = .ok (rngC i c (Builtin.Range.rangeSize i j c).toNat) ς := if_pos h
def ownLot (n : Nat) (k : Nat) : List Int := ((List.range n).filter fun j : Nat => decide ((1 + (k : Int) * 2) / 2 ^ j % 2 = 1)).map fun j : Nat => (j : Int)
theorem own_first {n : Int} (h4 : 4 ≤ n) (h8 : n ≤ 8) : (List.range (2 ^ (n.toNat - 1))).map (ownLot n.toNat) = firstL (n.toNat - 1) := by
  have : n = 4 ∨ n = 5 ∨ n = 6 ∨ n = 7 ∨ n = 8 := by omega
  rcases this with rfl | rfl | rfl | rfl | rfl <;> decide +kernel
theorem p_cuts {n : Int} (h4 : 4 ≤ n) (h8 : n ≤ 8) : phi__law_cuts [.d (.int n)] = .ok (.own ((sortD ((cutsL n).map intT)).map .d)) [.d (.int n)] := by
  have hbg : big62 n = true := big62_of (by omega) (by omega)
  have hr : (rngU 0 n.toNat).length ≤ 1000000 := by rw [rngU_len]; omega
  have s1 : fShl (.int 1) (.int n) = some (.int (2 ^ n.toNat)) := by
    have : n = 4 ∨ n = 5 ∨ n = 6 ∨ n = 7 ∨ n = 8 := by omega
    rcases this with rfl | rfl | rfl | rfl | rfl <;> rfl
  have rk : rcOk 1 (2 ^ n.toNat) 2 = true ∧ (Builtin.Range.rangeSize 1 (2 ^ n.toNat) 2).toNat = 2 ^ (n.toNat - 1) := by
    have : n = 4 ∨ n = 5 ∨ n = 6 ∨ n = 7 ∨ n = 8 := by omega
    rcases this with rfl | rfl | rfl | rfl | rfl <;> decide +kernel
  obtain ⟨r1, r2⟩ := rk
  have K8 : 2 ^ (n.toNat - 1) ≤ 128 := Nat.le_trans (Nat.pow_le_pow_right (by omega) (by omega : n.toNat - 1 ≤ 7)) (by decide)
  generalize hK : 2 ^ (n.toNat - 1) = K at *
  obtain ⟨ς', e, x2, x3, hς⟩ := loopF_map (g := (gN 2)) (body := (mSeq (mAsg (mA (mCons (mLc [4] (mRng1 (mCons (mVar 0) mNil)) (gN 4) (mTs fEq (mOp fMod (mOp fShr (mVar 2) (mVar 4)) (mC (.int 2))) (mC (.int 1))) (mVar 4)) mNil) kTuple) (gN 3)) (mIf (toT (mCh fLe fLe (mC (.int 2)) (mA (mCons (mVar 3) mNil) kLen) (mOp fSub (mVar 0) (mC (.int 2))))) (mExpr (mMut mkAppend (pN 1) (mCons (mVar 3) mNil))) mNext))) (List.range K) (fun i : Nat => U.d (.int (1 + (i : Nat) * 2)))
    (fun pre ς => ∃ x2 x3 : Option U, ς = [some (.d (.int n)), some (.own ((((pre.map (ownLot n.toNat)).filter (wideB n)).map intT).map .d)), x2, x3, none])
    (ς := [some (.d (.int n)), some (.own []), none, none, none])
    ⟨none, none, rfl⟩ (by
      rintro pre k post hi ς ⟨x2, x3, rfl⟩
      have hk : pre.length ≤ 128 := by
        have := congrArg List.length hi
        rw [List.length_range, List.length_append] at this
        omega
      have hlen : ((((pre.map (ownLot n.toNat)).filter (wideB n)).map intT).map U.d).length < 1000000 := by
        have := List.length_filter_le (wideB n) (pre.map (ownLot n.toNat))
        simp only [List.length_map] at *
        omega
      have c : ∀ {x3 f : Option U}, loopC [4] (gN 4) (mTs fEq (mOp fMod (mOp fShr (mVar 2) (mVar 4)) (mC (.int 2))) (mC (.int 1))) (mVar 4) (rngU 0 n.toNat) [] [some (.d (.int n)), f, some (.d (.int (1 + (k : Int) * 2))), x3, none] = .ok (((ownLot n.toNat k).map .int).map .d) [some (.d (.int n)), f, some (.d (.int (1 + (k : Int) * 2))), x3, none] := fun {x3 f} => by
        rw [rngU_map]
        refine (loopC_filD _ (fun j : Nat => decide ((1 + (k : Int) * 2) / 2 ^ j % 2 = 1)) (fun j : Nat => .int (j : Nat)) (List.range n.toNat) fun j hj => ?_).trans ?_
        · have s2 : fShr (.int (1 + (k : Int) * 2)) (.int (j : Nat)) = some (.int ((1 + (k : Int) * 2) / 2 ^ j)) := by
            show (if (0 : Int) ≤ (j : Nat) then some (PyData.int ((1 + (k : Int) * 2) / 2 ^ ((j : Nat) : Int).toNat)) else none) = _
            rw [if_pos (by omega), Int.toNat_natCast]
          generalize hY : stepC _ _ _ _ _ _ = Y
          simp (disch := first | assumption | exact zSm (by repeat first | assumption | exact Vm.z1 | exact Vm.zm1 | exact Vm.z2 | exact Vm.z0 | with_reducible apply zmul | with_reducible apply zadd | with_reducible apply zsub | with_reducible apply zneg) (by first | decide | omega) | (simp only [sizeLine_eq, List.length_cons, List.length_nil, List.length_append, List.length_map, Nat.reduceAdd, Nat.reduceLT, Nat.reduceLeDiff]; done) | decide | rfl) only [evs, evl, evx, Bool.not_false, Bool.not_true, decide_true, decide_false, if_true, if_false, List.nil_append, List.cons_append, List.map_nil, List.map_cons, Int.toNat_natCast, Int.zero_add, List.length_cons, List.length_nil, Nat.reduceAdd, Int.cast_ofNat_Int, Int.reduceLT, Int.reduceLE, Int.reduceEq, Int.reduceSub, Int.reduceAdd, Int.reduceMul, Bool.false_eq_true, Int.reduceToNat, Int.reducePow, Int.reduceMod, Int.reduceDiv, Nat.reduceMul, Nat.reduceSub, Nat.reduceLT, Nat.reduceLeDiff, Int.reduceNeg, s2] at hY
          subst hY
          cases decide ((1 + (k : Int) * 2) / 2 ^ j % 2 = 1) <;> simp (disch := first | assumption | exact zSm (by repeat first | assumption | exact Vm.z1 | exact Vm.zm1 | exact Vm.z2 | exact Vm.z0 | with_reducible apply zmul | with_reducible apply zadd | with_reducible apply zsub | with_reducible apply zneg) (by first | decide | omega) | (simp only [sizeLine_eq, List.length_cons, List.length_nil, List.length_append, List.length_map, Nat.reduceAdd, Nat.reduceLT, Nat.reduceLeDiff]; done) | decide | rfl) only [evs, evl, evx, Bool.not_false, Bool.not_true, decide_true, decide_false, if_true, if_false, List.nil_append, List.cons_append, List.map_nil, List.map_cons, Int.toNat_natCast, Int.zero_add, List.length_cons, List.length_nil, Nat.reduceAdd, Int.cast_ofNat_Int, Int.reduceLT, Int.reduceLE, Int.reduceEq, Int.reduceSub, Int.reduceAdd, Int.reduceMul, Bool.false_eq_true, Int.reduceToNat, Int.reducePow, Int.reduceMod, Int.reduceDiv, Nat.reduceMul, Nat.reduceSub, Nat.reduceLT, Nat.reduceLeDiff, Int.reduceNeg]
        · unfold ownLot; simp only [List.map_map]; rfl
      have td := toDs_map ((ownLot n.toNat k).map PyData.int)
      generalize hX : stepF _ _ _ _ = X
      simp (disch := first | assumption | exact zSm (by repeat first | assumption | exact Vm.z1 | exact Vm.zm1 | exact Vm.z2 | exact Vm.z0 | with_reducible apply zmul | with_reducible apply zadd | with_reducible apply zsub | with_reducible apply zneg) (by first | decide | omega) | (simp only [sizeLine_eq, List.length_cons, List.length_nil, List.length_append, List.length_map, Nat.reduceAdd, Nat.reduceLT, Nat.reduceLeDiff]; done) | decide | rfl) only [evs, evl, evx, Bool.not_false, Bool.not_true, decide_true, decide_false, if_true, if_false, List.nil_append, List.cons_append, List.map_nil, List.map_cons, Int.toNat_natCast, Int.zero_add, List.length_cons, List.length_nil, Nat.reduceAdd, Int.cast_ofNat_Int, Int.reduceLT, Int.reduceLE, Int.reduceEq, Int.reduceSub, Int.reduceAdd, Int.reduceMul, Bool.false_eq_true, Int.reduceToNat, Int.reducePow, Int.reduceMod, Int.reduceDiv, Nat.reduceMul, Nat.reduceSub, Nat.reduceLT, Nat.reduceLeDiff, Int.reduceNeg, hbg, c, lcK_ hr, td, List.length_map] at hX
      have apT : wideB n (ownLot n.toNat k) = true → ((pre ++ [k]).map (ownLot n.toNat)).filter (wideB n) = (pre.map (ownLot n.toNat)).filter (wideB n) ++ [ownLot n.toNat k] := fun h => by
        rw [List.map_append, List.filter_append, List.map_singleton, List.filter_cons, if_pos h, List.filter_nil]
      have apF : wideB n (ownLot n.toNat k) = false → ((pre ++ [k]).map (ownLot n.toNat)).filter (wideB n) = (pre.map (ownLot n.toNat)).filter (wideB n) := fun h => by
        rw [List.map_append, List.filter_append, List.map_singleton, List.filter_cons, if_neg (by simp [h]), List.filter_nil, List.append_nil]
      by_cases h1 : 2 ≤ ((ownLot n.toNat k).length : Int)
      · by_cases h2 : ((ownLot n.toNat k).length : Int) ≤ n - 2
        · have hw : wideB n (ownLot n.toNat k) = true := by unfold wideB; rw [decide_eq_true h1, decide_eq_true h2]; rfl
          simp (disch := first | assumption | exact zSm (by repeat first | assumption | exact Vm.z1 | exact Vm.zm1 | exact Vm.z2 | exact Vm.z0 | with_reducible apply zmul | with_reducible apply zadd | with_reducible apply zsub | with_reducible apply zneg) (by first | decide | omega) | (simp only [sizeLine_eq, List.length_cons, List.length_nil, List.length_append, List.length_map, Nat.reduceAdd, Nat.reduceLT, Nat.reduceLeDiff]; done) | decide | rfl) only [evs, evl, evx, Bool.not_false, Bool.not_true, decide_true, decide_false, if_true, if_false, List.nil_append, List.cons_append, List.map_nil, List.map_cons, Int.toNat_natCast, Int.zero_add, List.length_cons, List.length_nil, Nat.reduceAdd, Int.cast_ofNat_Int, Int.reduceLT, Int.reduceLE, Int.reduceEq, Int.reduceSub, Int.reduceAdd, Int.reduceMul, Bool.false_eq_true, Int.reduceToNat, Int.reducePow, Int.reduceMod, Int.reduceDiv, Nat.reduceMul, Nat.reduceSub, Nat.reduceLT, Nat.reduceLeDiff, Int.reduceNeg, decide_eq_true h1, decide_eq_true h2, mkAppend_ hlen] at hX
          subst hX
          refine ⟨_, rfl, some (.d (.int (1 + (k : Nat) * 2))), some (.d (intT (ownLot n.toNat k))), ?_⟩
          rw [apT hw, List.map_append, List.map_append]; rfl
        · have hw : wideB n (ownLot n.toNat k) = false := by unfold wideB; rw [decide_eq_true h1, decide_eq_false h2]; rfl
          simp (disch := first | assumption | exact zSm (by repeat first | assumption | exact Vm.z1 | exact Vm.zm1 | exact Vm.z2 | exact Vm.z0 | with_reducible apply zmul | with_reducible apply zadd | with_reducible apply zsub | with_reducible apply zneg) (by first | decide | omega) | (simp only [sizeLine_eq, List.length_cons, List.length_nil, List.length_append, List.length_map, Nat.reduceAdd, Nat.reduceLT, Nat.reduceLeDiff]; done) | decide | rfl) only [evs, evl, evx, Bool.not_false, Bool.not_true, decide_true, decide_false, if_true, if_false, List.nil_append, List.cons_append, List.map_nil, List.map_cons, Int.toNat_natCast, Int.zero_add, List.length_cons, List.length_nil, Nat.reduceAdd, Int.cast_ofNat_Int, Int.reduceLT, Int.reduceLE, Int.reduceEq, Int.reduceSub, Int.reduceAdd, Int.reduceMul, Bool.false_eq_true, Int.reduceToNat, Int.reducePow, Int.reduceMod, Int.reduceDiv, Nat.reduceMul, Nat.reduceSub, Nat.reduceLT, Nat.reduceLeDiff, Int.reduceNeg, decide_eq_true h1, decide_eq_false h2] at hX
          subst hX
          refine ⟨_, rfl, some (.d (.int (1 + (k : Nat) * 2))), some (.d (intT (ownLot n.toNat k))), ?_⟩
          rw [apF hw]; rfl
      · have hw : wideB n (ownLot n.toNat k) = false := by unfold wideB; rw [decide_eq_false h1]; rfl
        simp (disch := first | assumption | exact zSm (by repeat first | assumption | exact Vm.z1 | exact Vm.zm1 | exact Vm.z2 | exact Vm.z0 | with_reducible apply zmul | with_reducible apply zadd | with_reducible apply zsub | with_reducible apply zneg) (by first | decide | omega) | (simp only [sizeLine_eq, List.length_cons, List.length_nil, List.length_append, List.length_map, Nat.reduceAdd, Nat.reduceLT, Nat.reduceLeDiff]; done) | decide | rfl) only [evs, evl, evx, Bool.not_false, Bool.not_true, decide_true, decide_false, if_true, if_false, List.nil_append, List.cons_append, List.map_nil, List.map_cons, Int.toNat_natCast, Int.zero_add, List.length_cons, List.length_nil, Nat.reduceAdd, Int.cast_ofNat_Int, Int.reduceLT, Int.reduceLE, Int.reduceEq, Int.reduceSub, Int.reduceAdd, Int.reduceMul, Bool.false_eq_true, Int.reduceToNat, Int.reducePow, Int.reduceMod, Int.reduceDiv, Nat.reduceMul, Nat.reduceSub, Nat.reduceLT, Nat.reduceLeDiff, Int.reduceNeg, decide_eq_false h1] at hX
        subst hX
        refine ⟨_, rfl, some (.d (.int (1 + (k : Nat) * 2))), some (.d (intT (ownLot n.toNat k))), ?_⟩
        rw [apF hw]; rfl)
  subst hς
  have hk' : (List.range K).map (ownLot n.toNat) = firstL (n.toNat - 1) := by rw [← hK]; exact own_first h4 h8
  rw [hk', show (firstL (n.toNat - 1)).filter (wideB n) = cutsL n from rfl] at e
  have hs := srt_lots (L := cutsL n) fun l hl => (firstL_bd _ l (List.mem_filter.mp hl).1).1
  have td := toDs_map ((cutsL n).map intT)
  have rr : rngC 1 2 K = (List.range K).map (fun i : Nat => U.d (.int (1 + (i : Nat) * 2))) := rfl
  generalize hX : phi__law_cuts _ = X
  simp (disch := first | assumption | exact zSm (by repeat first | assumption | exact Vm.z1 | exact Vm.zm1 | exact Vm.z2 | exact Vm.z0 | with_reducible apply zmul | with_reducible apply zadd | with_reducible apply zsub | with_reducible apply zneg) (by first | decide | omega) | (simp only [sizeLine_eq, List.length_cons, List.length_nil, List.length_append, List.length_map, Nat.reduceAdd, Nat.reduceLT, Nat.reduceLeDiff]; done) | decide | rfl) only [phi__law_cuts, m__law_cuts, evs, evl, evx, Bool.not_false, Bool.not_true, decide_true, decide_false, if_true, if_false, List.nil_append, List.cons_append, List.map_nil, List.map_cons, Int.toNat_natCast, Int.zero_add, List.length_cons, List.length_nil, Nat.reduceAdd, Int.cast_ofNat_Int, Int.reduceLT, Int.reduceLE, Int.reduceEq, Int.reduceSub, Int.reduceAdd, Int.reduceMul, Bool.false_eq_true, Int.reduceToNat, Int.reducePow, Int.reduceMod, Int.reduceDiv, Nat.reduceMul, Nat.reduceSub, Nat.reduceLT, Nat.reduceLeDiff, Int.reduceNeg, hbg, s1, ev_rng3, ev_kRng3, rngK3_ r1, r2, rr, e, td, srtK_ hs] at hX
  subst hX
  cases x2 <;> cases x3 <;> rfl
/-- the law's own ties across -/
theorem p_acrossT {n : Int} {ts : List (Int × Int)} {C : List Int} (G : Good n ts) : phi__law_across [.d (webD n ts), .d (.tuple (C.map .int))] = .ok (.own (((posB (acr C) 0 ts).map fun i : Nat => PyData.int (i : Nat)).map .d)) [.d (webD n ts), .d (.tuple (C.map .int))] := by
  have hl : (enumU 0 (ts.map pd)).length ≤ 1000000 := by rw [enumU_len, List.length_map]; have := G.len; omega
  generalize hX : phi__law_across _ = X
  simp only [phi__law_across, m__law_across, evs, evl, evx, Bool.not_false, Bool.not_true, decide_true, decide_false, if_true, if_false, List.nil_append, List.cons_append, List.map_nil, List.map_cons, Int.toNat_natCast, Int.zero_add, List.length_cons, List.length_nil, Nat.reduceAdd, Int.cast_ofNat_Int, Int.reduceLT, Int.reduceLE, Int.reduceEq, Int.reduceSub, Int.reduceAdd, Int.reduceMul, Bool.false_eq_true, Int.reduceToNat, Int.reducePow, Int.reduceMod, Int.reduceDiv, Nat.reduceMul, Nat.reduceSub, Nat.reduceLT, Nat.reduceLeDiff, Int.reduceNeg, webD] at hX
  rw [lcK_ hl, enumU_map, loopC_filD _ (fun x => acr C x.1) (fun x => PyData.int (x.2 : Nat)) (ts.zipIdx 0) (by
    intro x hx
    generalize hY : stepC _ _ _ _ _ _ = Y
    simp only [evs, evl, evx, Bool.not_false, Bool.not_true, decide_true, decide_false, if_true, if_false, List.nil_append, List.cons_append, List.map_nil, List.map_cons, Int.toNat_natCast, Int.zero_add, List.length_cons, List.length_nil, Nat.reduceAdd, Int.cast_ofNat_Int, Int.reduceLT, Int.reduceLE, Int.reduceEq, Int.reduceSub, Int.reduceAdd, Int.reduceMul, Bool.false_eq_true, Int.reduceToNat, Int.reducePow, Int.reduceMod, Int.reduceDiv, Nat.reduceMul, Nat.reduceSub, Nat.reduceLT, Nat.reduceLeDiff, Int.reduceNeg, pd, fIn_intT, fNe_bool] at hY
    rw [show (decide (x.fst.fst ∈ C) != decide (x.fst.snd ∈ C)) = acr C x.1 from rfl] at hY
    subst hY
    cases acr C x.1 <;> simp only [evs, evl, evx, Bool.not_false, Bool.not_true, decide_true, decide_false, if_true, if_false, List.nil_append, List.cons_append, List.map_nil, List.map_cons, Int.toNat_natCast, Int.zero_add, List.length_cons, List.length_nil, Nat.reduceAdd, Int.cast_ofNat_Int, Int.reduceLT, Int.reduceLE, Int.reduceEq, Int.reduceSub, Int.reduceAdd, Int.reduceMul, Bool.false_eq_true, Int.reduceToNat, Int.reducePow, Int.reduceMod, Int.reduceDiv, Nat.reduceMul, Nat.reduceSub, Nat.reduceLT, Nat.reduceLeDiff, Int.reduceNeg])] at hX
  simp only [evs, evl, evx, Bool.not_false, Bool.not_true, decide_true, decide_false, if_true, if_false, List.nil_append, List.cons_append, List.map_nil, List.map_cons, Int.toNat_natCast, Int.zero_add, List.length_cons, List.length_nil, Nat.reduceAdd, Int.cast_ofNat_Int, Int.reduceLT, Int.reduceLE, Int.reduceEq, Int.reduceSub, Int.reduceAdd, Int.reduceMul, Bool.false_eq_true, Int.reduceToNat, Int.reducePow, Int.reduceMod, Int.reduceDiv, Nat.reduceMul, Nat.reduceSub, Nat.reduceLT, Nat.reduceLeDiff, Int.reduceNeg] at hX
  subst hX
  rw [posB_eq]
  simp only [List.map_map]
  rfl
theorem p_acrossO {n : Int} {ts : List (Int × Int)} {C : List Int} (G : Good n ts) : phi__law_across [.d (webD n ts), .own ((C.map .int).map .d)] = .ok (.own (((posB (acr C) 0 ts).map fun i : Nat => PyData.int (i : Nat)).map .d)) [.d (webD n ts), .own ((C.map .int).map .d)] := by
  have hl : (enumU 0 (ts.map pd)).length ≤ 1000000 := by rw [enumU_len, List.length_map]; have := G.len; omega
  have td := toDs_map (C.map PyData.int)
  generalize hX : phi__law_across _ = X
  simp only [phi__law_across, m__law_across, evs, evl, evx, Bool.not_false, Bool.not_true, decide_true, decide_false, if_true, if_false, List.nil_append, List.cons_append, List.map_nil, List.map_cons, Int.toNat_natCast, Int.zero_add, List.length_cons, List.length_nil, Nat.reduceAdd, Int.cast_ofNat_Int, Int.reduceLT, Int.reduceLE, Int.reduceEq, Int.reduceSub, Int.reduceAdd, Int.reduceMul, Bool.false_eq_true, Int.reduceToNat, Int.reducePow, Int.reduceMod, Int.reduceDiv, Nat.reduceMul, Nat.reduceSub, Nat.reduceLT, Nat.reduceLeDiff, Int.reduceNeg, webD] at hX
  rw [lcK_ hl, enumU_map, loopC_filD _ (fun x => acr C x.1) (fun x => PyData.int (x.2 : Nat)) (ts.zipIdx 0) (by
    intro x hx
    generalize hY : stepC _ _ _ _ _ _ = Y
    simp only [evs, evl, evx, Bool.not_false, Bool.not_true, decide_true, decide_false, if_true, if_false, List.nil_append, List.cons_append, List.map_nil, List.map_cons, Int.toNat_natCast, Int.zero_add, List.length_cons, List.length_nil, Nat.reduceAdd, Int.cast_ofNat_Int, Int.reduceLT, Int.reduceLE, Int.reduceEq, Int.reduceSub, Int.reduceAdd, Int.reduceMul, Bool.false_eq_true, Int.reduceToNat, Int.reducePow, Int.reduceMod, Int.reduceDiv, Nat.reduceMul, Nat.reduceSub, Nat.reduceLT, Nat.reduceLeDiff, Int.reduceNeg, pd, td, fIn_int, fNe_bool] at hY
    rw [show (decide (x.fst.fst ∈ C) != decide (x.fst.snd ∈ C)) = acr C x.1 from rfl] at hY
    subst hY
    cases acr C x.1 <;> simp only [evs, evl, evx, Bool.not_false, Bool.not_true, decide_true, decide_false, if_true, if_false, List.nil_append, List.cons_append, List.map_nil, List.map_cons, Int.toNat_natCast, Int.zero_add, List.length_cons, List.length_nil, Nat.reduceAdd, Int.cast_ofNat_Int, Int.reduceLT, Int.reduceLE, Int.reduceEq, Int.reduceSub, Int.reduceAdd, Int.reduceMul, Bool.false_eq_true, Int.reduceToNat, Int.reducePow, Int.reduceMod, Int.reduceDiv, Nat.reduceMul, Nat.reduceSub, Nat.reduceLT, Nat.reduceLeDiff, Int.reduceNeg])] at hX
  simp only [evs, evl, evx, Bool.not_false, Bool.not_true, decide_true, decide_false, if_true, if_false, List.nil_append, List.cons_append, List.map_nil, List.map_cons, Int.toNat_natCast, Int.zero_add, List.length_cons, List.length_nil, Nat.reduceAdd, Int.cast_ofNat_Int, Int.reduceLT, Int.reduceLE, Int.reduceEq, Int.reduceSub, Int.reduceAdd, Int.reduceMul, Bool.false_eq_true, Int.reduceToNat, Int.reducePow, Int.reduceMod, Int.reduceDiv, Nat.reduceMul, Nat.reduceSub, Nat.reduceLT, Nat.reduceLeDiff, Int.reduceNeg] at hX
  subst hX
  rw [posB_eq]
  simp only [List.map_map]
  rfl
end K33
end
section
set_option autoImplicit false
set_option Elab.async false
set_option linter.all false
set_option maxRecDepth 100000
namespace K33
open PySem L2 PySem.W Vm PG
theorem p_lots (p : U) (hp : Dr p) (n : Int) (m : Nat) : ∃ (L : List Int) (p' : U), loopC [3] (gN 3) (mTs fEq (mCall phi__law_draw [] (mCons (mVar 0) (mCons (mC (.int 2)) mNil))) (mC (.int 0))) (mVar 3) (rngU 0 m) [] [some (p), some (.d (.int n)), none, none] = .ok ((L.map .int).map .d) [some (p'), some (.d (.int n)), none, none] ∧ (∀ q ∈ L, 0 ≤ q ∧ q < (m : Int)) ∧ L.Pairwise (· < ·) ∧ Dr p' := by
  obtain ⟨acc, ς', e, L, p', h1, h2, h3, h4, h5⟩ := loopC_idx (vs := [3]) (g := (gN 3)) (tt := (mTs fEq (mCall phi__law_draw [] (mCons (mVar 0) (mCons (mC (.int 2)) mNil))) (mC (.int 0)))) (te := (mVar 3))
    (fun k acc ς => ∃ (L : List Int) (p' : U), acc = (L.map PyData.int).map .d ∧ ς = [some (p'), some (.d (.int n)), none, none] ∧ (∀ q ∈ L, 0 ≤ q ∧ q < (k : Int)) ∧ L.Pairwise (· < ·) ∧ Dr p') (rngU 0 m) 0 [] [some (p), some (.d (.int n)), none, none]
    ⟨[], p, rfl, rfl, by simp, List.Pairwise.nil, hp⟩ (by
      rintro i hi acc ς ⟨L, p1, rfl, rfl, h3, h4, h5⟩
      obtain ⟨v, p2, e2, l2, u2, hp2⟩ := p_draw p1 h5 2 (by omega) (by omega)
      have D := hp2
      obtain ⟨_, _, rfl, _, _, _⟩ := h5
      obtain ⟨_, _, rfl, _, _, _⟩ := hp2
      by_cases hv : v = 0
      · subst hv
        refine ⟨some (.d (.int (0 + (i : Nat)))), [some (_), some (.d (.int n)), none, none], ?_, L ++ [0 + (i : Int)], _, by simp, rfl, fun x hx => ?_, ?_, D⟩
        · rw [rngU_get]
          simp (disch := first | assumption | exact zSm (by repeat first | assumption | exact Vm.z1 | exact Vm.zm1 | exact Vm.z2 | exact Vm.z0 | with_reducible apply zmul | with_reducible apply zadd | with_reducible apply zsub | with_reducible apply zneg) (by first | decide | omega) | (simp only [sizeLine_eq, List.length_cons, List.length_nil, List.length_append, List.length_map, Nat.reduceAdd, Nat.reduceLT, Nat.reduceLeDiff]; done) | decide | rfl) only [evs, evl, evx, Bool.not_false, Bool.not_true, decide_true, decide_false, if_true, if_false, List.nil_append, List.cons_append, List.map_nil, List.map_cons, Int.toNat_natCast, Int.zero_add, List.length_cons, List.length_nil, Nat.reduceAdd, Int.cast_ofNat_Int, Int.reduceLT, Int.reduceLE, Int.reduceEq, Int.reduceSub, Int.reduceAdd, Int.reduceMul, Bool.false_eq_true, Int.reduceToNat, Int.reducePow, Int.reduceMod, Int.reduceDiv, Nat.reduceMul, Nat.reduceSub, Nat.reduceLT, Nat.reduceLeDiff, Int.reduceNeg, e2]
        · rcases List.mem_append.mp hx with hx | hx
          · have := h3 x hx; omega
          · have : x = 0 + (i : Int) := by simpa using hx
            omega
        · rw [List.pairwise_append]
          refine ⟨h4, List.pairwise_singleton .., fun a ha b hb => ?_⟩
          have : b = 0 + (i : Int) := by simpa using hb
          have := h3 a ha
          omega
      · refine ⟨none, [some (_), some (.d (.int n)), none, none], ?_, L, _, by simp, rfl, fun x hx => ?_, h4, D⟩
        · rw [rngU_get]
          simp (disch := first | assumption | exact zSm (by repeat first | assumption | exact Vm.z1 | exact Vm.zm1 | exact Vm.z2 | exact Vm.z0 | with_reducible apply zmul | with_reducible apply zadd | with_reducible apply zsub | with_reducible apply zneg) (by first | decide | omega) | (simp only [sizeLine_eq, List.length_cons, List.length_nil, List.length_append, List.length_map, Nat.reduceAdd, Nat.reduceLT, Nat.reduceLeDiff]; done) | decide | rfl) only [evs, evl, evx, Bool.not_false, Bool.not_true, decide_true, decide_false, if_true, if_false, List.nil_append, List.cons_append, List.map_nil, List.map_cons, Int.toNat_natCast, Int.zero_add, List.length_cons, List.length_nil, Nat.reduceAdd, Int.cast_ofNat_Int, Int.reduceLT, Int.reduceLE, Int.reduceEq, Int.reduceSub, Int.reduceAdd, Int.reduceMul, Bool.false_eq_true, Int.reduceToNat, Int.reducePow, Int.reduceMod, Int.reduceDiv, Nat.reduceMul, Nat.reduceSub, Nat.reduceLT, Nat.reduceLeDiff, Int.reduceNeg, e2, decide_eq_false hv]
        · have := h3 x hx; omega)
  subst h1 h2
  refine ⟨L, p', e, ?_, h4, h5⟩
  rw [rngU_len] at h3; simpa using h3
theorem p_drawn_lot (p : U) (hp : Dr p) {n : Int} (h4 : 4 ≤ n) (h12 : n ≤ 12) : ∃ (C : List Int) (p' : U), phi__law_drawn_lot [p, .d (.int n)] = .ok (.d (.tuple (C.map .int))) [p', .d (.int n)] ∧ RiseLot n C ∧ Dr p' := by
  obtain ⟨L, p', e, h1, h2, hp'⟩ := p_lots p hp n n.toNat
  have D := hp'
  have hbg : big62 n = true := big62_of (by omega) (by omega)
  have hr : (rngU 0 n.toNat).length ≤ 1000000 := by rw [rngU_len]; omega
  have td := toDs_map (L.map PyData.int)
  obtain ⟨_, _, rfl, _, _, _⟩ := hp
  obtain ⟨_, _, rfl, _, _, _⟩ := hp'
  refine ⟨L, _, ?_, ⟨fun c hc => by have := h1 c hc; omega, h2⟩, D⟩
  simp (disch := first | assumption | exact zSm (by repeat first | assumption | exact Vm.z1 | exact Vm.zm1 | exact Vm.z2 | exact Vm.z0 | with_reducible apply zmul | with_reducible apply zadd | with_reducible apply zsub | with_reducible apply zneg) (by first | decide | omega) | (simp only [sizeLine_eq, List.length_cons, List.length_nil, List.length_append, List.length_map, Nat.reduceAdd, Nat.reduceLT, Nat.reduceLeDiff]; done) | decide | rfl) only [phi__law_drawn_lot, m__law_drawn_lot, evs, evl, evx, Bool.not_false, Bool.not_true, decide_true, decide_false, if_true, if_false, List.nil_append, List.cons_append, List.map_nil, List.map_cons, Int.toNat_natCast, Int.zero_add, List.length_cons, List.length_nil, Nat.reduceAdd, Int.cast_ofNat_Int, Int.reduceLT, Int.reduceLE, Int.reduceEq, Int.reduceSub, Int.reduceAdd, Int.reduceMul, Bool.false_eq_true, Int.reduceToNat, Int.reducePow, Int.reduceMod, Int.reduceDiv, Nat.reduceMul, Nat.reduceSub, Nat.reduceLT, Nat.reduceLeDiff, Int.reduceNeg, hbg, lcK_ hr, e, td]
  rfl
def compl (n : Int) (C : List Int) : List Int := ((List.range n.toNat).filter fun i : Nat => decide (¬ (i : Int) ∈ C)).map fun i : Nat => (i : Int)
theorem compl_mem {n : Int} {C : List Int} {i : Int} (h0 : 0 ≤ i) (h1 : i < n) : i ∈ compl n C ↔ ¬ i ∈ C := by
  unfold compl
  rw [List.mem_map]
  constructor
  · rintro ⟨j, hj, rfl⟩
    exact of_decide_eq_true (List.mem_filter.mp hj).2
  · intro h
    refine ⟨i.toNat, List.mem_filter.mpr ⟨List.mem_range.mpr (by omega), ?_⟩, by omega⟩
    rw [show ((i.toNat : Nat) : Int) = i by omega]; exact decide_eq_true h
theorem posB_congr {α : Type} {f g : α → Bool} : ∀ (l : List α) (k : Nat), (∀ a ∈ l, f a = g a) → posB f k l = posB g k l
  | [], _, _ => rfl
  | a :: l, k, h => by rw [posB, posB, h a (by simp), posB_congr l (k + 1) fun b hb => h b (by simp [hb])]
theorem cutL_last {α : Type} (xs : List α) (y : α) : cutL (xs ++ [y]) none (some (-1)) = xs := by
  unfold cutL
  have h : HT.sIx (xs ++ [y]).length (xs ++ [y]).length (some (-1)) = xs.length := by
    show (if (-1 : Int) < 0 then ((-1 : Int) + ((xs ++ [y]).length : Int)).toNat else min (-1 : Int).toNat (xs ++ [y]).length) = _
    rw [if_pos (by omega), List.length_append, List.length_singleton]
    omega
  rw [h]
  show List.take (xs.length - 0) (List.drop 0 (xs ++ [y])) = xs
  simp
theorem compl_loop {n : Int} (C : List Int) {p w t : U} {d o : Option U} : loopC [6] (gN 6) (mTs (fIn true) (mVar 6) (mVar 2)) (mVar 6) (rngU 0 n.toNat) [] [some (p), some (w), some (.d (.tuple (C.map .int))), d, some (t), o, none] = .ok (((compl n C).map .int).map .d) [some (p), some (w), some (.d (.tuple (C.map .int))), d, some (t), o, none] := by
  rw [rngU_map]
  refine (loopC_filD _ (fun i : Nat => decide (¬ (i : Int) ∈ C)) (fun i : Nat => PyData.int (i : Nat)) (List.range n.toNat) fun i hi => ?_).trans ?_
  · generalize hY : stepC _ _ _ _ _ _ = Y
    simp (disch := first | assumption | exact zSm (by repeat first | assumption | exact Vm.z1 | exact Vm.zm1 | exact Vm.z2 | exact Vm.z0 | with_reducible apply zmul | with_reducible apply zadd | with_reducible apply zsub | with_reducible apply zneg) (by first | decide | omega) | (simp only [sizeLine_eq, List.length_cons, List.length_nil, List.length_append, List.length_map, Nat.reduceAdd, Nat.reduceLT, Nat.reduceLeDiff]; done) | decide | rfl) only [evs, evl, evx, Bool.not_false, Bool.not_true, decide_true, decide_false, if_true, if_false, List.nil_append, List.cons_append, List.map_nil, List.map_cons, Int.toNat_natCast, Int.zero_add, List.length_cons, List.length_nil, Nat.reduceAdd, Int.cast_ofNat_Int, Int.reduceLT, Int.reduceLE, Int.reduceEq, Int.reduceSub, Int.reduceAdd, Int.reduceMul, Bool.false_eq_true, Int.reduceToNat, Int.reducePow, Int.reduceMod, Int.reduceDiv, Nat.reduceMul, Nat.reduceSub, Nat.reduceLT, Nat.reduceLeDiff, Int.reduceNeg, fInN_intT] at hY
    subst hY
    cases decide (¬ (i : Int) ∈ C) <;> simp (disch := first | assumption | exact zSm (by repeat first | assumption | exact Vm.z1 | exact Vm.zm1 | exact Vm.z2 | exact Vm.z0 | with_reducible apply zmul | with_reducible apply zadd | with_reducible apply zsub | with_reducible apply zneg) (by first | decide | omega) | (simp only [sizeLine_eq, List.length_cons, List.length_nil, List.length_append, List.length_map, Nat.reduceAdd, Nat.reduceLT, Nat.reduceLeDiff]; done) | decide | rfl) only [evs, evl, evx, Bool.not_false, Bool.not_true, decide_true, decide_false, if_true, if_false, List.nil_append, List.cons_append, List.map_nil, List.map_cons, Int.toNat_natCast, Int.zero_add, List.length_cons, List.length_nil, Nat.reduceAdd, Int.cast_ofNat_Int, Int.reduceLT, Int.reduceLE, Int.reduceEq, Int.reduceSub, Int.reduceAdd, Int.reduceMul, Bool.false_eq_true, Int.reduceToNat, Int.reducePow, Int.reduceMod, Int.reduceDiv, Nat.reduceMul, Nat.reduceSub, Nat.reduceLT, Nat.reduceLeDiff, Int.reduceNeg]
  · unfold compl; simp only [List.map_map]; rfl
def posD (ts : List (Int × Int)) (C : List Int) : List PyData := (posB (acr C) 0 ts).map fun i : Nat => PyData.int (i : Nat)
theorem rb (a b : Bool) : fRepr (.list [.bool a, .bool b]) = some (.str (PyData.list [.bool a, .bool b]).shown) := fRepr_ok (b := 2) (rpb_list (b := 0) (fun x hx => by
    simp only [List.mem_cons, List.not_mem_nil, or_false] at hx
    rcases hx with rfl | rfl
    · exact rpb_bool
    · exact rpb_bool) (by simp)) (by omega)
theorem posB_len {α : Type} (f : α → Bool) (l : List α) (k : Nat) : (posB f k l).length ≤ l.length := by
  rw [posB_eq]
  have := List.length_filter_le (fun x : α × Nat => f x.1) (l.zipIdx k)
  simp only [List.length_map, List.length_zipIdx] at *
  omega
theorem rpos {n : Int} {ts : List (Int × Int)} (G : Good n ts) (C : List Int) : fRepr (.list (posD ts C)) = some (.str (PyData.list (posD ts C)).shown) := fRepr_ok (b := 200) (rpb_list (b := 0) (fun x hx => by
    obtain ⟨i, hi, rfl⟩ := List.mem_map.mp hx
    have := posB_bd (acr C) ts 0 i hi
    have := G.len
    exact rpb_int (by omega) (by omega)) (by
      unfold posD
      rw [List.length_map]
      have := posB_len (acr C) ts 0
      have := G.len
      omega)) (by omega)
theorem fNe_pos (ts : List (Int × Int)) (C : List Int) : fNe (.list (posD ts C)) (.list (posD ts C)) = some (.bool false) := fNe_lself fun x hx => by obtain ⟨p, _, rfl⟩ := List.mem_map.mp hx; exact ⟨rfl, rfl⟩
theorem fEq_pos (ts : List (Int × Int)) (C : List Int) : fEq (.list (posD ts C)) (.list (posD ts C)) = some (.bool true) := fEq_lself fun x hx => by obtain ⟨p, _, rfl⟩ := List.mem_map.mp hx; exact ⟨rfl, rfl⟩
theorem p_one_right (p : U) (hp : Dr p) {n : Int} {ts : List (Int × Int)} (G : Good n ts) : ∃ (p' : U), phi__law_one_right [p, .d (webD n ts)] = .ok (.d (.bool true)) [p', .d (webD n ts)] ∧ Dr p' := by
  obtain ⟨C, p1, e1, hC, hp1⟩ := p_drawn_lot p hp G.n4 G.n12
  have D := hp1
  have n12 := G.n12
  have n4 := G.n4
  obtain ⟨_, _, rfl, _, _, _⟩ := hp
  obtain ⟨_, _, rfl, _, _, _⟩ := hp1
  have e2 := p_is_cutB G hC
  have e3 := p_is_cutL (xs := C.map .int) G
  have hbg : big62 n = true := big62_of (by omega) (by omega)
  have hr : (rngU 0 n.toNat).length ≤ 1000000 := by rw [rngU_len]; omega
  have hq : fEq (.tuple (cutL (C.map PyData.int) none (some 1))) (.tuple [.int 0]) = some (.bool (decide (C.head? = some 0))) := by rw [cutL_t1]; exact head_eq C
  by_cases hb : isCutB n C = true
  · rw [hb] at e2
    have hc := hC.cut hb
    obtain ⟨hb1, hb2⟩ : decide (C.head? = some 0) = true ∧ wideB n C = true := by unfold isCutB at hb; rw [Bool.and_eq_true] at hb; exact hb
    have hb3 : decide (2 ≤ (C.length : Int)) = true ∧ decide ((C.length : Int) ≤ n - 2) = true := by unfold wideB at hb2; rw [Bool.and_eq_true] at hb2; exact hb2
    have e4 := p_across G hc
    have e5 := p_acrossT (C := C) G
    have e6 := p_acrossO (C := compl n C) G
    rw [posB_congr (f := acr (compl n C)) (g := acr C) ts 0 fun p hp => by
      have r := G.rng p hp
      unfold acr
      simp only [compl_mem (n := n) (C := C) (i := p.1) (by omega : 0 ≤ p.1) (by omega), compl_mem (n := n) (C := C) (i := p.2) (by omega : 0 ≤ p.2) (by omega)]
      by_cases a : p.1 ∈ C <;> by_cases b : p.2 ∈ C <;> simp [a, b]] at e6
    rw [show (posB (acr C) 0 ts).map (fun i : Nat => PyData.int (i : Nat)) = posD ts C from rfl] at e4 e5 e6
    generalize hX : phi__law_one_right _ = X
    simp only [webD] at *
    simp (disch := first | assumption | exact zSm (by repeat first | assumption | exact Vm.z1 | exact Vm.zm1 | exact Vm.z2 | exact Vm.z0 | with_reducible apply zmul | with_reducible apply zadd | with_reducible apply zsub | with_reducible apply zneg) (by first | decide | omega) | (simp only [sizeLine_eq, List.length_cons, List.length_nil, List.length_append, List.length_map, Nat.reduceAdd, Nat.reduceLT, Nat.reduceLeDiff]; done) | decide | rfl) only [phi__law_one_right, m__law_one_right, evs, evl, evx, Bool.not_false, Bool.not_true, decide_true, decide_false, if_true, if_false, List.nil_append, List.cons_append, List.map_nil, List.map_cons, Int.toNat_natCast, Int.zero_add, List.length_cons, List.length_nil, Nat.reduceAdd, Int.cast_ofNat_Int, Int.reduceLT, Int.reduceLE, Int.reduceEq, Int.reduceSub, Int.reduceAdd, Int.reduceMul, Bool.false_eq_true, Int.reduceToNat, Int.reducePow, Int.reduceMod, Int.reduceDiv, Nat.reduceMul, Nat.reduceSub, Nat.reduceLT, Nat.reduceLeDiff, Int.reduceNeg, e1, e2, e3, hq, hb1, hb3.1, hb3.2, toDs_map, List.length_map, rb, fNe_str, e4, e5, rpos G C, fNe_pos ts C, hbg, lcK_ hr, compl_loop C] at hX
    have hlen : ((posD ts C).map U.d).length < 1000000 := by
      unfold posD
      have := posB_len (acr C) ts 0
      have := G.len
      simp only [List.length_map]
      omega
    have tl : U.toDs ((posD ts C).map U.d ++ [U.d (.int 99)]) = some (posD ts C ++ [.int 99]) := by
      rw [show (posD ts C).map U.d ++ [U.d (.int 99)] = (posD ts C ++ [PyData.int 99]).map U.d by rw [List.map_append]; rfl]
      exact toDs_map _
    simp (disch := first | assumption | exact zSm (by repeat first | assumption | exact Vm.z1 | exact Vm.zm1 | exact Vm.z2 | exact Vm.z0 | with_reducible apply zmul | with_reducible apply zadd | with_reducible apply zsub | with_reducible apply zneg) (by first | decide | omega) | (simp only [sizeLine_eq, List.length_cons, List.length_nil, List.length_append, List.length_map, Nat.reduceAdd, Nat.reduceLT, Nat.reduceLeDiff]; done) | decide | rfl) only [evs, evl, evx, Bool.not_false, Bool.not_true, decide_true, decide_false, if_true, if_false, List.nil_append, List.cons_append, List.map_nil, List.map_cons, Int.toNat_natCast, Int.zero_add, List.length_cons, List.length_nil, Nat.reduceAdd, Int.cast_ofNat_Int, Int.reduceLT, Int.reduceLE, Int.reduceEq, Int.reduceSub, Int.reduceAdd, Int.reduceMul, Bool.false_eq_true, Int.reduceToNat, Int.reducePow, Int.reduceMod, Int.reduceDiv, Nat.reduceMul, Nat.reduceSub, Nat.reduceLT, Nat.reduceLeDiff, Int.reduceNeg, toDs_map, e6, fNe_pos ts C, mkAppend_ hlen, e4, tl, cutL_last, fEq_pos ts C] at hX
    trace_state
    subst hX
    exact ⟨_, rfl, D⟩
  · have hb := Bool.eq_false_iff.mpr hb
    rw [hb] at e2
    generalize hX : phi__law_one_right _ = X
    simp only [webD] at *
    have fin : ∀ X : FR, (∀ b1 b2 b3 : Bool, decide (C.head? = some 0) = b1 → decide (2 ≤ (C.length : Int)) = b2 → decide ((C.length : Int) ≤ n - 2) = b3 → (b1 && (b2 && b3)) = false) → True := fun _ _ => trivial
    cases hb1 : decide (C.head? = some 0)
    · rw [hb1] at hq
      simp (disch := first | assumption | exact zSm (by repeat first | assumption | exact Vm.z1 | exact Vm.zm1 | exact Vm.z2 | exact Vm.z0 | with_reducible apply zmul | with_reducible apply zadd | with_reducible apply zsub | with_reducible apply zneg) (by first | decide | omega) | (simp only [sizeLine_eq, List.length_cons, List.length_nil, List.length_append, List.length_map, Nat.reduceAdd, Nat.reduceLT, Nat.reduceLeDiff]; done) | decide | rfl) only [phi__law_one_right, m__law_one_right, evs, evl, evx, Bool.not_false, Bool.not_true, decide_true, decide_false, if_true, if_false, List.nil_append, List.cons_append, List.map_nil, List.map_cons, Int.toNat_natCast, Int.zero_add, List.length_cons, List.length_nil, Nat.reduceAdd, Int.cast_ofNat_Int, Int.reduceLT, Int.reduceLE, Int.reduceEq, Int.reduceSub, Int.reduceAdd, Int.reduceMul, Bool.false_eq_true, Int.reduceToNat, Int.reducePow, Int.reduceMod, Int.reduceDiv, Nat.reduceMul, Nat.reduceSub, Nat.reduceLT, Nat.reduceLeDiff, Int.reduceNeg, e1, e2, e3, hq, toDs_map, List.length_map, rb, fNe_str] at hX
      subst hX
      exact ⟨_, rfl, D⟩
    · cases hb2 : decide (2 ≤ (C.length : Int))
      · rw [hb1] at hq
        simp (disch := first | assumption | exact zSm (by repeat first | assumption | exact Vm.z1 | exact Vm.zm1 | exact Vm.z2 | exact Vm.z0 | with_reducible apply zmul | with_reducible apply zadd | with_reducible apply zsub | with_reducible apply zneg) (by first | decide | omega) | (simp only [sizeLine_eq, List.length_cons, List.length_nil, List.length_append, List.length_map, Nat.reduceAdd, Nat.reduceLT, Nat.reduceLeDiff]; done) | decide | rfl) only [phi__law_one_right, m__law_one_right, evs, evl, evx, Bool.not_false, Bool.not_true, decide_true, decide_false, if_true, if_false, List.nil_append, List.cons_append, List.map_nil, List.map_cons, Int.toNat_natCast, Int.zero_add, List.length_cons, List.length_nil, Nat.reduceAdd, Int.cast_ofNat_Int, Int.reduceLT, Int.reduceLE, Int.reduceEq, Int.reduceSub, Int.reduceAdd, Int.reduceMul, Bool.false_eq_true, Int.reduceToNat, Int.reducePow, Int.reduceMod, Int.reduceDiv, Nat.reduceMul, Nat.reduceSub, Nat.reduceLT, Nat.reduceLeDiff, Int.reduceNeg, e1, e2, e3, hq, hb2, toDs_map, List.length_map, rb, fNe_str] at hX
        subst hX
        exact ⟨_, rfl, D⟩
      · cases hb3 : decide ((C.length : Int) ≤ n - 2)
        · rw [hb1] at hq
          simp (disch := first | assumption | exact zSm (by repeat first | assumption | exact Vm.z1 | exact Vm.zm1 | exact Vm.z2 | exact Vm.z0 | with_reducible apply zmul | with_reducible apply zadd | with_reducible apply zsub | with_reducible apply zneg) (by first | decide | omega) | (simp only [sizeLine_eq, List.length_cons, List.length_nil, List.length_append, List.length_map, Nat.reduceAdd, Nat.reduceLT, Nat.reduceLeDiff]; done) | decide | rfl) only [phi__law_one_right, m__law_one_right, evs, evl, evx, Bool.not_false, Bool.not_true, decide_true, decide_false, if_true, if_false, List.nil_append, List.cons_append, List.map_nil, List.map_cons, Int.toNat_natCast, Int.zero_add, List.length_cons, List.length_nil, Nat.reduceAdd, Int.cast_ofNat_Int, Int.reduceLT, Int.reduceLE, Int.reduceEq, Int.reduceSub, Int.reduceAdd, Int.reduceMul, Bool.false_eq_true, Int.reduceToNat, Int.reducePow, Int.reduceMod, Int.reduceDiv, Nat.reduceMul, Nat.reduceSub, Nat.reduceLT, Nat.reduceLeDiff, Int.reduceNeg, e1, e2, e3, hq, hb2, hb3, toDs_map, List.length_map, rb, fNe_str] at hX
          subst hX
          exact ⟨_, rfl, D⟩
        · unfold isCutB wideB at hb
          rw [hb1, hb2, hb3] at hb; cases hb
end K33
end
section
set_option autoImplicit false
set_option Elab.async false
set_option linter.all false
set_option maxRecDepth 100000
namespace K33
open PySem L2 PySem.W Vm PG
noncomputable def allD (n : Int) : List PyData := sortD ((cutsL n).map intT)
theorem allD_mem {n : Int} {x : PyData} (h : x ∈ allD n) : ∃ l, l ∈ cutsL n ∧ x = intT l := by
  have := (List.mergeSort_perm ((cutsL n).map intT) (dataLe false fun x => x)).mem_iff.mp h
  obtain ⟨l, hl, rfl⟩ := List.mem_map.mp this
  exact ⟨l, hl, rfl⟩
theorem cutsL_len {n : Int} (h4 : 4 ≤ n) (h8 : n ≤ 8) : ((cutsL n).length : Int) = 1 * 2 ^ (n - 1).toNat - n - 1 := by
  have : n = 4 ∨ n = 5 ∨ n = 6 ∨ n = 7 ∨ n = 8 := by omega
  rcases this with rfl | rfl | rfl | rfl | rfl <;> decide +kernel
theorem allD_len (n : Int) : (allD n).length = (cutsL n).length := by
  unfold allD sortD
  rw [List.length_mergeSort, List.length_map]
theorem allD_le {n : Int} (h4 : 4 ≤ n) (h8 : n ≤ 8) : (allD n).length ≤ 200 := by
  have h := cutsL_len h4 h8
  rw [allD_len]
  have : n = 4 ∨ n = 5 ∨ n = 6 ∨ n = 7 ∨ n = 8 := by omega
  rcases this with rfl | rfl | rfl | rfl | rfl <;> (simp only [show ((4 : Int) - 1).toNat = 3 from rfl, show ((5 : Int) - 1).toNat = 4 from rfl, show ((6 : Int) - 1).toNat = 5 from rfl, show ((7 : Int) - 1).toNat = 6 from rfl, show ((8 : Int) - 1).toNat = 7 from rfl] at h; omega)
theorem allD_ne (n : Int) : fNe (.list (allD n)) (.list (allD n)) = some (.bool false) := fNe_lself fun x hx => by
  obtain ⟨l, hl, rfl⟩ := allD_mem hx
  refine ⟨?_, ?_⟩
  · show lev 7 (.tuple (l.map .int)) = true
    rw [show lev 7 (.tuple (l.map PyData.int)) = (l.map PyData.int).all (lev 6) from rfl, List.all_map, List.all_eq_true]
    exact fun _ _ => rfl
  · have : ∀ M : List Int, PyData.plainAll (M.map .int) = true := fun M => by
      induction M with
      | nil => rfl
      | cons p M ih => rw [List.map_cons, PyData.plainAll, ih]; rfl
    exact this l
theorem allD_repr {n : Int} (h4 : 4 ≤ n) (h8 : n ≤ 8) : fRepr (.list (allD n)) = some (.str (PyData.list (allD n)).shown) := fRepr_ok (b := 4000) (rpb_list (b := 12) (fun x hx => by
    obtain ⟨l, hl, rfl⟩ := allD_mem hx
    obtain ⟨_, b, c⟩ := firstL_bd _ l (List.mem_filter.mp hl).1
    exact rpb_tup (b := 0) (fun y hy => by
      obtain ⟨i, hi, rfl⟩ := List.mem_map.mp hy
      have := c i hi
      exact rpb_int (by omega) (by omega)) (by rw [List.length_map]; omega)) (by have := allD_le h4 h8; omega)) (by omega)
set_option maxHeartbeats 8000000 in
theorem law_holds (ns : List Int) (hns : ns.length ≤ 63) : ∃ us, phi_law [.d (.list (ns.map .int))] = .ok (.d (.bool true)) us := by
  obtain ⟨p0, e0, hp0⟩ := p_pot ns
  obtain ⟨v, p1, e1, l1, u1, hp1⟩ := p_draw p0 hp0 6 (by omega) (by omega)
  obtain ⟨n, ts, p2, e2, G, n9, hl, hp2⟩ := p_web p1 hp1 (if v = 0 then 8 else 7) (by split <;> omega) (by split <;> omega)
  have n8 : n ≤ 8 := by split at n9 <;> omega
  have n4 := G.n4
  have a1 := p_all_cuts G n8
  have a2 := p_cuts n4 n8
  rw [show sortD ((cutsL n).map intT) = allD n from rfl] at a1 a2
  have len := allD_le n4 n8
  have hlen : ((allD n).map U.d).length < 1000000 := by rw [List.length_map]; omega
  have cl := cutsL_len n4 n8
  rw [← allD_len] at cl
  have s1 : fShl (.int 1) (.int (n - 1)) = some (.int (1 * 2 ^ (n - 1).toNat)) := by
    have : n = 4 ∨ n = 5 ∨ n = 6 ∨ n = 7 ∨ n = 8 := by omega
    rcases this with rfl | rfl | rfl | rfl | rfl <;> rfl
  obtain ⟨ς', e3, p3, y5, hς, hp3⟩ := loopF_nat (g := (gN 5)) (body := (mIf (mNot (mB (mCall phi__law_one_right [] (mCons (mVar 1) (mCons (mVar 2) mNil))))) (mRet (mC (.bool false))) mNext)) 4
    (fun k ς => ∃ (p' : U) (y : Option U), ς = [some (.d (.list (ns.map .int))), some (p'), some (.d (webD n ts)), some (.own ((allD n).map .d ++ [.d (.tuple [])])), some (.own ((allD n).map .d)), y] ∧ Dr p')
    (ς := [some (.d (.list (ns.map .int))), some (p2), some (.d (webD n ts)), some (.own ((allD n).map .d ++ [.d (.tuple [])])), some (.own ((allD n).map .d)), none])
    ⟨p2, none, rfl, hp2⟩ (by
      rintro k hk ς ⟨p, y, rfl, hp⟩
      obtain ⟨p', e, D⟩ := p_one_right p hp G
      have D' := D
      obtain ⟨_, _, rfl, _, _, _⟩ := hp
      obtain ⟨_, _, rfl, _, _, _⟩ := D
      refine ⟨_, ?_, _, some (.d (.int (k : Nat))), rfl, D'⟩
      simp (disch := first | assumption | exact zSm (by repeat first | assumption | exact Vm.z1 | exact Vm.zm1 | exact Vm.z2 | exact Vm.z0 | with_reducible apply zmul | with_reducible apply zadd | with_reducible apply zsub | with_reducible apply zneg) (by first | decide | omega) | (simp only [sizeLine_eq, List.length_cons, List.length_nil, List.length_append, List.length_map, Nat.reduceAdd, Nat.reduceLT, Nat.reduceLeDiff]; done) | decide | rfl) only [evs, evl, evx, Bool.not_false, Bool.not_true, decide_true, decide_false, if_true, if_false, List.nil_append, List.cons_append, List.map_nil, List.map_cons, Int.toNat_natCast, Int.zero_add, List.length_cons, List.length_nil, Nat.reduceAdd, Int.cast_ofNat_Int, Int.reduceLT, Int.reduceLE, Int.reduceEq, Int.reduceSub, Int.reduceAdd, Int.reduceMul, Bool.false_eq_true, Int.reduceToNat, Int.reducePow, Int.reduceMod, Int.reduceDiv, Nat.reduceMul, Nat.reduceSub, Nat.reduceLT, Nat.reduceLeDiff, Int.reduceNeg, e])
  subst hς
  obtain ⟨m, us, p4, e4, G2, n12, hl2, hp4⟩ := p_web p3 hp3 12 (by omega) (by omega)
  obtain ⟨p5, e5, hp5⟩ := p_one_right p4 hp4 G2
  obtain ⟨_, _, rfl, _, _, _⟩ := hp0
  obtain ⟨_, _, rfl, _, _, _⟩ := hp1
  obtain ⟨_, _, rfl, _, _, _⟩ := hp2
  obtain ⟨_, _, rfl, _, _, _⟩ := hp3
  obtain ⟨_, _, rfl, _, _, _⟩ := hp4
  obtain ⟨_, _, rfl, _, _, _⟩ := hp5
  generalize hX : phi_law _ = X
  simp only [webD] at *
  cases hv : decide (v = 0)
  · have hv' := of_decide_eq_false hv
    rw [if_neg hv'] at e2
    simp (disch := first | assumption | exact zSm (by repeat first | assumption | exact Vm.z1 | exact Vm.zm1 | exact Vm.z2 | exact Vm.z0 | with_reducible apply zmul | with_reducible apply zadd | with_reducible apply zsub | with_reducible apply zneg) (by first | decide | omega) | (simp only [sizeLine_eq, List.length_cons, List.length_nil, List.length_append, List.length_map, Nat.reduceAdd, Nat.reduceLT, Nat.reduceLeDiff]; done) | decide | rfl) only [phi_law, m_law, evs, evl, evx, Bool.not_false, Bool.not_true, decide_true, decide_false, if_true, if_false, List.nil_append, List.cons_append, List.map_nil, List.map_cons, Int.toNat_natCast, Int.zero_add, List.length_cons, List.length_nil, Nat.reduceAdd, Int.cast_ofNat_Int, Int.reduceLT, Int.reduceLE, Int.reduceEq, Int.reduceSub, Int.reduceAdd, Int.reduceMul, Bool.false_eq_true, Int.reduceToNat, Int.reducePow, Int.reduceMod, Int.reduceDiv, Nat.reduceMul, Nat.reduceSub, Nat.reduceLT, Nat.reduceLeDiff, Int.reduceNeg, e0, e1, hv, e2, a1, a2, toDs_map, allD_repr n4 n8, fNe_str, List.length_map, s1, cl, allD_ne, mkAppend_ hlen] at hX
    rw [e3] at hX
    simp (disch := first | assumption | exact zSm (by repeat first | assumption | exact Vm.z1 | exact Vm.zm1 | exact Vm.z2 | exact Vm.z0 | with_reducible apply zmul | with_reducible apply zadd | with_reducible apply zsub | with_reducible apply zneg) (by first | decide | omega) | (simp only [sizeLine_eq, List.length_cons, List.length_nil, List.length_append, List.length_map, Nat.reduceAdd, Nat.reduceLT, Nat.reduceLeDiff]; done) | decide | rfl) only [evs, evl, evx, Bool.not_false, Bool.not_true, decide_true, decide_false, if_true, if_false, List.nil_append, List.cons_append, List.map_nil, List.map_cons, Int.toNat_natCast, Int.zero_add, List.length_cons, List.length_nil, Nat.reduceAdd, Int.cast_ofNat_Int, Int.reduceLT, Int.reduceLE, Int.reduceEq, Int.reduceSub, Int.reduceAdd, Int.reduceMul, Bool.false_eq_true, Int.reduceToNat, Int.reducePow, Int.reduceMod, Int.reduceDiv, Nat.reduceMul, Nat.reduceSub, Nat.reduceLT, Nat.reduceLeDiff, Int.reduceNeg, e4, e5] at hX
    subst hX
    exact ⟨_, rfl⟩
  · have hv' := of_decide_eq_true hv
    rw [if_pos hv'] at e2
    simp (disch := first | assumption | exact zSm (by repeat first | assumption | exact Vm.z1 | exact Vm.zm1 | exact Vm.z2 | exact Vm.z0 | with_reducible apply zmul | with_reducible apply zadd | with_reducible apply zsub | with_reducible apply zneg) (by first | decide | omega) | (simp only [sizeLine_eq, List.length_cons, List.length_nil, List.length_append, List.length_map, Nat.reduceAdd, Nat.reduceLT, Nat.reduceLeDiff]; done) | decide | rfl) only [phi_law, m_law, evs, evl, evx, Bool.not_false, Bool.not_true, decide_true, decide_false, if_true, if_false, List.nil_append, List.cons_append, List.map_nil, List.map_cons, Int.toNat_natCast, Int.zero_add, List.length_cons, List.length_nil, Nat.reduceAdd, Int.cast_ofNat_Int, Int.reduceLT, Int.reduceLE, Int.reduceEq, Int.reduceSub, Int.reduceAdd, Int.reduceMul, Bool.false_eq_true, Int.reduceToNat, Int.reducePow, Int.reduceMod, Int.reduceDiv, Nat.reduceMul, Nat.reduceSub, Nat.reduceLT, Nat.reduceLeDiff, Int.reduceNeg, e0, e1, hv, e2, a1, a2, toDs_map, allD_repr n4 n8, fNe_str, List.length_map, s1, cl, allD_ne, mkAppend_ hlen] at hX
    rw [e3] at hX
    simp (disch := first | assumption | exact zSm (by repeat first | assumption | exact Vm.z1 | exact Vm.zm1 | exact Vm.z2 | exact Vm.z0 | with_reducible apply zmul | with_reducible apply zadd | with_reducible apply zsub | with_reducible apply zneg) (by first | decide | omega) | (simp only [sizeLine_eq, List.length_cons, List.length_nil, List.length_append, List.length_map, Nat.reduceAdd, Nat.reduceLT, Nat.reduceLeDiff]; done) | decide | rfl) only [evs, evl, evx, Bool.not_false, Bool.not_true, decide_true, decide_false, if_true, if_false, List.nil_append, List.cons_append, List.map_nil, List.map_cons, Int.toNat_natCast, Int.zero_add, List.length_cons, List.length_nil, Nat.reduceAdd, Int.cast_ofNat_Int, Int.reduceLT, Int.reduceLE, Int.reduceEq, Int.reduceSub, Int.reduceAdd, Int.reduceMul, Bool.false_eq_true, Int.reduceToNat, Int.reducePow, Int.reduceMod, Int.reduceDiv, Nat.reduceMul, Nat.reduceSub, Nat.reduceLT, Nat.reduceLeDiff, Int.reduceNeg, e4, e5] at hX
    subst hX
    exact ⟨_, rfl⟩
end K33
end
section
open PySem PySem.W PySem.Calls PyProof.Rows
set_option maxHeartbeats 0 in
theorem PySem.Challenge.cw_ballcorners_k33_whole_all_cuts_holds : PySem.Challenge.rw_ballcorners_k33_whole_all_cuts.Holds := by
  w_on; o_law
  refine HandSHeadRun.head_any (r := OpenLaw.row PySem.Challenge.rw_ballcorners_k33_whole_all_cuts) (q := view (OpenLaw.row PySem.Challenge.rw_ballcorners_k33_whole_all_cuts).prog [35]) (H := K33.hk) (ob := K33.ob) (M := 40000) (loose := K33.lo) (d := HandSHeadRun.topDef (OpenLaw.row PySem.Challenge.rw_ballcorners_k33_whole_all_cuts).prog 35) (kwd := []) K33.ob_eq
    (by kernel_rfl) (fun s => by kernel_rfl) K33.run (by kernel_rfl) (by kernel_rfl) (by kernel_rfl) (by rfl) (by first | assumption | decide +kernel) (by decide +kernel) ⟨rfl, rfl, rfl, rfl, rfl, by decide +kernel⟩ ?hw ?hc
  case hw => w_witness2
  case hc =>
    refine Vm.walkG (l := PySem.Challenge.rw_ballcorners_k33_whole_all_cuts) (n := 63) (k := 8) (x := "script") (CX := fun w => L2.CX (OpenLaw.row PySem.Challenge.rw_ballcorners_k33_whole_all_cuts).prog w) rfl (by decide) (by kernel_rfl) ⟨rfl, by decide, by decide⟩ ?F (fun w H s e s' ⟨_, _, _, _, _, _, _, _, _, _, _, _, z⟩ => z)
    intro w mg fa h Y G hmg0
    obtain ⟨K, KX, c⟩ := Y
    have hmg : mg ("law" : PySem.Str) = some (.ref fa) := by
      have e : (HandSHeadRun.topDef (OpenLaw.row PySem.Challenge.rw_ballcorners_k33_whole_all_cuts).prog 35).name = ("law" : PySem.Str) := by kernel_rfl
      rw [← e]
      exact hmg0
    exact K33.law_end K33.law_holds KX G hmg c
end
