import PyProof.Rows.All
import Wide.All
import OpenK.AllK
import Wide.FinOn
import HandS.ForMost
import HandS.ForExc
import HandS.TupLe
import HandS.TupAny
import HandS.IsInst
import HandS.TupMul
import HandS.Lambda
import HandS.ExcInit
import HandS.Zip
import HandS.TupLen
import HandS.Style
import HandS.Deep
import HandS.Strs
import HandS.Text
import HandS.DictComp
import HandS.Defaults
import HandS.Small
import PyProof.StrLawsRepr
import PySem.Challenge.RW_farasnothing_k08_expressions_reckoned
set_option Elab.async false
set_option linter.all false
set_option maxRecDepth 100000
set_option maxHeartbeats 4000000
namespace Fa
open PySem PySem.Spec PyProof.Rows L2
/-! tuples that are known with their object (it has no dict): the rules that make tuples, over again -/
theorem frz_ok {P : Program} {w : World} {H : Hp} {h : Heap} {its : List Value} {xs : List V} (hz : xs.length ≤ sizeLine) (r : Vals xs its) :
    ObjOk P w H (h.push { cls := .type "tuple", data := .seq its.toArray }) h.objs.size (.frz { cls := .type "tuple", data := .seq its.toArray } (.tup xs)) :=
  ⟨Heap.get?_push_size _ rfl, hz, its, r, ⟨_, Heap.get?_push_size _ rfl, rfl, _, rfl⟩⟩
/-- a new tuple -/
def NewF (H : Hp) (xs : List V) (Q : VK) : Prop := ∀ (p : Addr) (o : Obj), H p = none → o.dict = none → Q (.ref p) (upd H p (.frz o (.tup xs)))
section
variable {X : Cx}
theorem new_f {pins : List (Addr × Obj)} {σ : L2.St} {H : Hp} {s : Shared} {its : List Value} {xs : List V} {Q : VK} (I : Inv X pins σ H s) (hz : xs.length ≤ sizeLine) (r : Vals xs its) (q : NewF H xs Q) :
    EP X pins σ Q (.ref s.heap.objs.size) { s with heap := s.heap.push { cls := .type "tuple", data := .seq its.toArray } } :=
  ⟨.ref s.heap.objs.size, upd H s.heap.objs.size (.frz { cls := .type "tuple", data := .seq its.toArray } (.tup xs)), I.laid (t' := s.toks) (fun b u e => Heap.get?_push_of_some _ e) (Nat.le_refl _) (frz_ok hz r), rfl, q _ _ (I.hok.fresh (Nat.le_refl _)) rfl⟩
def tTupF (t : TA) : TE := fun σ H Q => t σ H fun xs H1 => xs.length ≤ sizeLine ∧ NewF H1 xs Q
theorem pe_tupF {es : List Expr} {t : TA} {x1} {pos : Pos} (h : PA X es t) : PE X (.Tuple es x1 pos) (tTupF t) := by
  refine ⟨fun pins s σ H Q I hq => ?_⟩
  refine wpAny_Tuple_spliced (thn (h.run pos pins s σ H _ I hq) fun us s1 ⟨xs, H1, I1, r, z, q⟩ => ⟨by rw [← r.length]; exact z, ?_⟩)
  exact new_f I1 z r q
def rCatF (K : PySem.W.Frag) : R2 := fun x y H Q => ∃ a b xs ys, x = .ref a ∧ y = .ref b ∧ SqT K H a xs ∧ SqT K H b ys ∧ xs.length + ys.length ≤ sizeLine ∧
  (xs = [] → Q (.ref b) H) ∧ (xs ≠ [] → ys = [] → Q (.ref a) H) ∧ (xs ≠ [] → ys ≠ [] → NewF H (xs ++ ys) Q)
theorem op_catF : OpR X (binaryOp .Add) (rCatF X.K) := by
  intro pins s σ H x y v u Q I rx ry h
  obtain ⟨a, b, xs, ys, rfl, rfl, ha, hb, hz, q0, q1, q2⟩ := h
  cases rx
  cases ry
  obtain ⟨its, r1, p1, _⟩ := I.tuple ha
  obtain ⟨its2, r2, p2, _⟩ := I.tuple hb
  by_cases hx : xs = []
  · subst hx
    cases r1
    exact cat_tup0 p1 p2 ⟨.ref b, H, I, rfl, q0 rfl⟩
  · refine HT.cat_tup p1 p2 (fun z => hx (r1.nil_iff.mp z)) (fun z => ⟨.ref a, H, I, rfl, q1 hx (r2.nil_iff.mp z)⟩) (fun z => ?_) (by rw [← r1.length, ← r2.length]; exact hz)
    exact new_f I (by rw [List.length_append]; exact hz) (r1.append r2) (q2 hx fun w => z (r2.nil_iff.mpr w))
def rSlF (K : PySem.W.Frag) : V → Option Int → Option Int → Hp → VK → Prop := fun x lo hi H Q => ∃ a xs, x = .ref a ∧ SqT K H a xs ∧
  (HT.sIx xs.length 0 lo = 0 ∧ HT.sIx xs.length xs.length hi = xs.length → Q (.ref a) H) ∧ (¬ (HT.sIx xs.length 0 lo = 0 ∧ HT.sIx xs.length xs.length hi = xs.length) → NewF H (cutV xs lo hi) Q)
theorem sl_tupF : SlR X (rSlF X.K) := by
  intro pins s σ H x v vl vu lo hi sl Q I rx hs pl pu h
  obtain ⟨a, xs, rfl, hx, q1, q2⟩ := h
  cases rx
  obtain ⟨its, r, ht, hz⟩ := I.tuple hx
  have hlen : its.toArray.size = xs.length := by rw [List.size_toArray]; exact r.length.symm
  refine ⟨"tuple", _, PyProof.Rows.slot_tuple_getitem.lookup, ht.typeIs, ?_⟩
  by_cases hw : HT.sIx xs.length 0 lo = 0 ∧ HT.sIx xs.length xs.length hi = xs.length
  · exact getItem_tuple_whole ht hs pl pu (by rw [hlen]; exact hw) ⟨.ref a, H, I, rfl, q1 hw⟩
  · refine HT.getItem_tuple_cut ht hs pl pu (by rw [hlen]; exact hw) ?_ (by rw [hlen]; exact hz)
    rw [hlen]
    exact new_f I (Nat.le_trans (cutV_length xs lo hi) hz) ((r.drop (HT.sIx xs.length 0 lo)).take (HT.sIx xs.length xs.length hi - HT.sIx xs.length 0 lo)) (q2 hw)
def rTupleF (K : PySem.W.Frag) : List V → Hp → VK → Prop := fun xs H Q => ∃ p ys, xs = [.ref p] ∧ ((SqL K H p ys ∧ NewF H ys Q) ∨ (SqT K H p ys ∧ Q (.ref p) H))
theorem call_tupleF : CallR X (.type "tuple") (rTupleF X.K) := by
  intro pins s σ H xs us Q I r h
  obtain ⟨p, ys, rfl, h⟩ := h
  obtain ⟨u, rfl, rx⟩ := vals1 r
  cases rx
  rcases h with ⟨hq, q⟩ | ⟨hq, q⟩
  · obtain ⟨its, r', pl, hz⟩ := I.list hq
    have hlen := r'.length
    refine call_tuple_list pl.isList (fun h' kp => ?_) (by simp only [List.size_toArray] <;> omega)
    exact new_f (s := { s with heap := h' }) (I.kept (t' := s.toks) kp) hz r' q
  · obtain ⟨its, r', pl, hz⟩ := I.tuple hq
    exact call_tuple_same pl ⟨.ref p, H, I, rfl, q⟩
def rRepF (K : PySem.W.Frag) : R2 := fun x y H Q => ∃ l k xs, x = .ref l ∧ y = .int k ∧ SqT K H l xs ∧ xs ≠ [] ∧ 2 ≤ k ∧ k ≤ 1000 ∧ xs.length ≤ 1000 ∧ NewF H (List.replicate k.toNat xs).flatten Q
theorem op_repF : OpR X (binaryOp .Mult) (rRepF X.K) := by
  intro pins s σ H x y v u Q I rx ry h
  obtain ⟨l, k, xs, rfl, rfl, hT, hne, h1, h2, hz, q⟩ := h
  cases rx
  obtain ⟨t, rfl⟩ := ry
  obtain ⟨its, r, ⟨⟨cls, dd, data, sl⟩, ho, hc, n, hd⟩, hs⟩ := I.tuple hT
  simp only at hc hd
  subst hc hd
  have hle : its.length = xs.length := r.length.symm
  have hi : its.toArray.isEmpty = false := by
    cases its with
    | nil => exact absurd (List.eq_nil_of_length_eq_zero hle.symm) hne
    | cons a b => rfl
  have a1 : k.toNat * xs.length ≤ 1000 * 1000 := Nat.mul_le_mul (by omega) hz
  have a2 : ((xs.length : Nat) : Int) * k ≤ 1000 * k := Int.mul_le_mul_of_nonneg_right (by omega) (by omega)
  have flen : (List.replicate k.toNat its).flatten.length ≤ sizeLine := by
    rw [PyProof.Rows.lm_len_rep_flat, hle, sizeLine_eq]
    omega
  have hm : ((its.toArray.size : Nat) : Int) * k ≤ 1000000 := by
    rw [List.size_toArray, hle]
    omega
  have c0 : (decide (k < -(2 ^ 63)) || decide (k ≥ 2 ^ 63)) = false := by
    rw [decide_eq_false (by omega), decide_eq_false (by omega)] <;> rfl
  have c1 : (its.toArray.isEmpty || k == 1) = false := by
    rw [hi, Bool.false_or]
    exact beq_eq_false_iff_ne.mpr (by omega)
  have c2 : (decide (k ≤ 0) || its.toArray.isEmpty) = false := by
    rw [hi, Bool.or_false]
    exact decide_eq_false (by omega)
  have c4 : Builtin.Tuple.tupleTooMany (((its.toArray.size : Nat) : Int) * k) = false := by
    unfold Builtin.Tuple.tupleTooMany
    rw [sizeLine_eq]
    exact decide_eq_false (by omega)
  refine wpAny_binaryOp_repeat_ref (T := "tuple") (U := "int") (by decide) ⟨_, ho, rfl⟩ (fun s' => typeIs_int s' k t) noFill_tuple_mul F.fills_int_mul F.slot_int_rmul repeat_tuple F.slot_int_index.lookup
    (call_meets F.slot_int_rmul (typeIs_int s k t) F.entry_int_rmul (F.args_int_rmul_2 _ _) (int_rmul_tuple k t l its.toArray n dd sl)
      ⟨ho, rfl, ⟨_, ho, rfl⟩, call_meets F.slot_tuple_mul ⟨_, ho, rfl⟩ F.entry_tuple_mul (F.args_tuple_mul_2 _ _) (tuple_mulW l its.toArray n dd sl k t c0 c1 c2 (by omega) c4 (by rw [size_rep, List.size_toArray]; exact flen)) ⟨ho, ?_⟩⟩)
  rw [size_rep]
  exact new_f I (by rw [PyProof.Rows.lm_len_rep_flat, sizeLine_eq]; omega) (r.rep k.toNat) q
end
end Fa
namespace Fa
open PySem PySem.Spec PyProof.Rows L2
/-! data, the store, results -/
inductive D where
  | non | bl (b : Bool) | int (i : Int) | str (x : Str) | tup (ds : List D) | ktp (ds : List D) | ttp (ds : List D) | rls (ds : List D) | loc (n : Nat) | adr (a : Addr) | ty (n : String) | exn (cn : Str) (ns : List Str) (ds : List D)
inductive MO where
  | lst (ds : List D)
  | dct (kvs : List (Key × D))
  | dcT (kvs : List (List Key × D))
  | ins (cn : Str) (fs : List (Str × D))
  | tab (P : Addr) (q : Str)
abbrev Sto := List MO
structure Exn where
  cn : Str
  fs : List (Str × D)
inductive Res (α : Type) where
  | ok (a : α) (S : Sto) | err (x : Exn) (S : Sto) | bad
abbrev M (α : Type) := Sto → Res α
def ret {α : Type} (a : α) : M α := fun S => .ok a S
def bnd {α β : Type} (m : M α) (f : α → M β) : M β := fun S =>
  match m S with
  | .ok a S' => f a S'
  | .err x S' => .err x S'
  | .bad => .bad
def fail {α : Type} : M α := fun _ => .bad
abbrev Env := List (Option D)
/-- how a statement ends -/
inductive Out where
  | nx (r : Env) (S : Sto) | rt (d : D) (S : Sto) | bk (r : Env) (S : Sto) | ct (r : Env) (S : Sto) | ex (x : Exn) (r : Env) (S : Sto) | bad
/-! what a value stands for -/
/-- the class of that name -/
def ClsAt (K : PySem.W.Frag) (cn : Str) (C : Addr) : Prop := PySem.W.nsIn K mainGlobals cn = some (some (.ref C))
theorem ClsAt.uniq {K : PySem.W.Frag} {cn : Str} {C C' : Addr} (h : ClsAt K cn C) (h' : ClsAt K cn C') : C = C' := by
  unfold ClsAt at h h'
  rw [h] at h'
  cases h'
  rfl
section
variable (K : PySem.W.Frag) (mu : List Addr) (H : Hp)
def SqR (a : Addr) (vs : List V) : Prop :=
  (∃ o, H a = some (.frz o (.lst vs))) ∨ ∃ (o : Obj) (its : Array Value) (n : Nat), K.lookup a = some o ∧ o.cls = .type "list" ∧ o.dict = none ∧ o.data = .seq its n ∧ its.size ≤ sizeLine ∧ Vals vs its.toList
def SqK (a : Addr) (xs : List V) : Prop := ∃ (o : Obj) (its : Array Value) (n : Nat), K.lookup a = some o ∧ o.cls = .type "tuple" ∧ o.dict = none ∧ o.data = .seq its n ∧ its.size ≤ sizeLine ∧ Vals xs its.toList
mutual
inductive Rep : V → D → Prop
  | non : Rep .non .non
  | bl (b : Bool) : Rep (.bl b) (.bl b)
  | int (i : Int) : Rep (.int i) (.int i)
  | str (x : Str) : Rep (.str x) (.str x)
  | ty (n : String) : Rep (.ty n) (.ty n)
  | adr (a : Addr) : Rep (.ref a) (.adr a)
  | loc {a : Addr} {n : Nat} : mu[n]? = some a → Rep (.ref a) (.loc n)
  | tup {a : Addr} {vs : List V} {ds : List D} {o : Obj} : o.dict = none → H a = some (.frz o (.tup vs)) → Reps vs ds → Rep (.ref a) (.tup ds)
  | ttp {a : Addr} {vs : List V} {ds : List D} : H a = some (.tup vs) → Reps vs ds → Rep (.ref a) (.ttp ds)
  | ktp {a : Addr} {vs : List V} {ds : List D} : SqK K a vs → Reps vs ds → Rep (.ref a) (.ktp ds)
  | rls {a : Addr} {vs : List V} {ds : List D} : SqR K H a vs → Reps vs ds → Rep (.ref a) (.rls ds)
  | exn {cn : Str} {a C dd : Addr} {oe : Obj} {fv : Array Value} {ns : List Str} {vs : List V} {ds : List D} : ClsAt K cn C → H a = some (.ext fun h => h.get? a = some oe) → oe.cls = .ref C → oe.dict = some dd → oe.data = .fields fv → H dd = some (.xd (ns.zip vs)) → Reps vs ds → Rep (.ref a) (.exn cn ns ds)
inductive Reps : List V → List D → Prop
  | nil : Reps [] []
  | cons {v : V} {vs : List V} {d : D} {ds : List D} : Rep v d → Reps vs ds → Reps (v :: vs) (d :: ds)
end
def KReps {κ : Type} : List (κ × V) → List (κ × D) → Prop := Paired fun p q => p.1 = q.1 ∧ Rep K mu H p.2 q.2
def MoRep (a : Addr) : MO → Prop
  | .lst ds => ∃ vs, H a = some (.lst vs) ∧ Reps K mu H vs ds
  | .dct kvs => ∃ vs, H a = some (.dK vs) ∧ KReps K mu H vs kvs
  | .dcT kvs => ∃ vs, H a = some (.dT vs) ∧ KReps K mu H vs kvs
  | .ins cn fs => ∃ C dx vs, ClsAt K cn C ∧ H a = some (.ins C dx vs) ∧ KReps K mu H vs fs
  | .tab P q => a = P ∧ LamX.TabS H P q
def RepO : Option V → Option D → Prop
  | some v, some d => Rep K mu H v d
  | _, none => True
  | none, some _ => False
def ERep : L2.St → Env → Prop := Paired (RepO K mu H)
structure HRep (S : Sto) : Prop where
  len : S.length = mu.length
  nd : mu.Nodup
  ob : ∀ (n : Nat) (o : MO) (a : Addr), S[n]? = some o → mu[n]? = some a → MoRep K mu H a o
def XRep (cls : Value) (dd : Option Addr) (x : Exn) : Prop := (∃ C, ClsAt K x.cn C ∧ cls = .ref C) ∧ ∃ a fs, dd = some a ∧ H a = some (.xd fs) ∧ KReps K mu H fs x.fs
end
/-- later: handles and data stay -/
structure Ext (mu : List Addr) (H : Hp) (mu' : List Addr) (H' : Hp) : Prop where
  pre : ∃ l, mu' = mu ++ l ∧ ∀ a ∈ l, H a = none
  live : ∀ a, H' a = none → H a = none
  rest : ∀ a o, a ∉ mu → H a = some o → H' a = some o
  exts : ∀ a φ, H a = some (.ext φ) → H' a = some (.ext φ)
  xds : ∀ a fs, H a = some (.xd fs) → H' a = some (.xd fs)
  tups : ∀ a xs, H a = some (.tup xs) → H' a = some (.tup xs)
  frzs : ∀ a o u, H a = some (.frz o u) → H' a = some (.frz o u)
section
variable {K : PySem.W.Frag} {mu mu' mu2 : List Addr} {H H' H2 : Hp}
theorem Ext.refl : Ext mu H mu H := ⟨⟨[], by simp, fun _ z => nomatch z⟩, fun _ h => h, fun _ _ _ h => h, fun _ _ h => h, fun _ _ h => h, fun _ _ h => h, fun _ _ _ h => h⟩
theorem Ext.trans (a : Ext mu H mu' H') (b : Ext mu' H' mu2 H2) : Ext mu H mu2 H2 := by
  obtain ⟨l, e, n⟩ := a.pre
  obtain ⟨l', e', n'⟩ := b.pre
  refine ⟨⟨l ++ l', by rw [e', e, List.append_assoc], fun c hc => ?_⟩, fun c h => a.live c (b.live c h), fun c o hc h => b.rest c o ?_ (a.rest c o hc h), fun c φ h => b.exts c φ (a.exts c φ h), fun c φ h => b.xds c φ (a.xds c φ h),
    fun c xs h => b.tups c xs (a.tups c xs h), fun c o u h => b.frzs c o u (a.frzs c o u h)⟩
  · rcases List.mem_append.mp hc with z | z
    · exact n c z
    · exact a.live c (n' c z)
  · rw [e]
    intro z
    rcases List.mem_append.mp z with z | z
    · exact hc z
    · rw [n c z] at h
      cases h
theorem Ext.get (a : Ext mu H mu' H') {n : Nat} {b : Addr} (h : mu[n]? = some b) : mu'[n]? = some b := by
  obtain ⟨l, rfl, _⟩ := a.pre
  obtain ⟨hl, e⟩ := List.getElem?_eq_some_iff.mp h
  rw [List.getElem?_append_left hl]
  exact h
theorem sqT_t {a : Addr} {vs : List V} {o : Obj} (h : H a = some (.frz o (.tup vs))) : SqT K H a vs := .inl (.inr ⟨o, h⟩)
theorem sqT_k {a : Addr} {vs : List V} (h : SqK K a vs) : SqT K H a vs := .inr (let ⟨o, its, n, h1, h2, _, h3⟩ := h; ⟨o, its, n, h1, h2, h3⟩)
theorem Ext.sqT (e : Ext mu H mu' H') {a : Addr} {vs : List V} (h : SqT K H a vs) : SqT K H' a vs := by
  rcases h with (h | ⟨o, h⟩) | h
  · exact .inl (.inl (e.tups _ _ h))
  · exact .inl (.inr ⟨o, e.frzs _ _ _ h⟩)
  · exact .inr h
theorem Ext.sqR (e : Ext mu H mu' H') {a : Addr} {vs : List V} (h : SqR K H a vs) : SqR K H' a vs := by
  rcases h with ⟨o, h⟩ | h
  · exact .inl ⟨o, e.frzs _ _ _ h⟩
  · exact .inr h
mutual
theorem Rep.mono (e : Ext mu H mu' H') : ∀ {v : V} {d : D}, Rep K mu H v d → Rep K mu' H' v d
  | _, _, .non => .non
  | _, _, .bl b => .bl b
  | _, _, .int i => .int i
  | _, _, .str x => .str x
  | _, _, .ty n => .ty n
  | _, _, .adr a => .adr a
  | _, _, .loc h => .loc (e.get h)
  | _, _, .tup hd h r => .tup hd (e.frzs _ _ _ h) (Reps.mono e r)
  | _, _, .ktp h r => .ktp h (Reps.mono e r)
  | _, _, .ttp h r => .ttp (e.tups _ _ h) (Reps.mono e r)
  | _, _, .rls h r => .rls (e.sqR h) (Reps.mono e r)
  | _, _, .exn h0 h1 h2 h3 h4 h5 r => .exn h0 (e.exts _ _ h1) h2 h3 h4 (e.xds _ _ h5) (Reps.mono e r)
theorem Reps.mono (e : Ext mu H mu' H') : ∀ {vs : List V} {ds : List D}, Reps K mu H vs ds → Reps K mu' H' vs ds
  | _, _, .nil => .nil
  | _, _, .cons r t => .cons (Rep.mono e r) (Reps.mono e t)
end
theorem RepO.mono (e : Ext mu H mu' H') {v : Option V} {d : Option D} (h : RepO K mu H v d) : RepO K mu' H' v d := by
  cases d with
  | none => cases v <;> trivial
  | some d =>
    cases v with
    | none => exact h
    | some v => exact Rep.mono e h
theorem ERep.mono (e : Ext mu H mu' H') : ∀ {s : L2.St} {r : Env}, ERep K mu H s r → ERep K mu' H' s r
  | _, _, .nil => .nil
  | _, _, .cons h t => .cons (RepO.mono e h) (ERep.mono e t)
theorem KReps.mono {κ : Type} (e : Ext mu H mu' H') : ∀ {s : List (κ × V)} {r : List (κ × D)}, KReps K mu H s r → KReps K mu' H' s r
  | _, _, .nil => .nil
  | _, _, .cons h t => .cons ⟨h.1, Rep.mono e h.2⟩ (KReps.mono e t)
theorem Reps.length : ∀ {vs : List V} {ds : List D}, Reps K mu H vs ds → vs.length = ds.length
  | _, _, .nil => rfl
  | _, _, .cons _ t => by simp [Reps.length t]
theorem ERep.length : ∀ {s : L2.St} {r : Env}, ERep K mu H s r → s.length = r.length
  | _, _, .nil => rfl
  | _, _, .cons _ t => by simp [ERep.length t]
theorem ERep.get : ∀ {s : L2.St} {r : Env} {i : Nat} {d : D}, ERep K mu H s r → r[i]? = some (some d) → ∃ v, s[i]? = some (some v) ∧ Rep K mu H v d
  | _, _, _, _, .nil, e => by simp at e
  | some v :: _, _, 0, d, .cons h _, e => by
    simp at e
    subst e
    exact ⟨v, rfl, h⟩
  | none :: _, _, 0, d, .cons h _, e => by
    simp at e
    subst e
    exact h.elim
  | _, _, i + 1, d, .cons _ t, e => by
    obtain ⟨v, h1, h2⟩ := ERep.get (i := i) (d := d) t (by simpa using e)
    exact ⟨v, by simpa using h1, h2⟩
theorem ERep.set {v : V} {d : D} (h : Rep K mu H v d) : ∀ {s : L2.St} {r : Env} (i : Nat), ERep K mu H s r → ERep K mu H (s.set i (some v)) (r.set i (some d))
  | _, _, _, .nil => .nil
  | _, _, 0, .cons _ t => .cons h t
  | _, _, i + 1, .cons q t => .cons q (ERep.set h i t)
theorem Reps.get : ∀ {vs : List V} {ds : List D} {i : Nat} {d : D}, Reps K mu H vs ds → ds[i]? = some d → ∃ v, vs[i]? = some v ∧ Rep K mu H v d
  | _, _, _, _, .nil, e => by simp at e
  | _, _, 0, _, .cons h _, e => by
    simp at e
    subst e
    exact ⟨_, rfl, h⟩
  | _, _, i + 1, d, .cons _ t, e => by
    obtain ⟨v, h1, h2⟩ := Reps.get (i := i) (d := d) t (by simpa using e)
    exact ⟨v, by simpa using h1, h2⟩
theorem Reps.append : ∀ {vs ws : List V} {ds es : List D}, Reps K mu H vs ds → Reps K mu H ws es → Reps K mu H (vs ++ ws) (ds ++ es)
  | _, _, _, _, .nil, s => s
  | _, _, _, _, .cons r t, s => .cons r (Reps.append t s)
theorem Reps.set {v : V} {d : D} (h : Rep K mu H v d) : ∀ {vs : List V} {ds : List D} (i : Nat), Reps K mu H vs ds → Reps K mu H (vs.set i v) (ds.set i d)
  | _, _, _, .nil => .nil
  | _, _, 0, .cons _ t => .cons h t
  | _, _, i + 1, .cons q t => .cons q (Reps.set h i t)
theorem Reps.take : ∀ {vs : List V} {ds : List D} (n : Nat), Reps K mu H vs ds → Reps K mu H (vs.take n) (ds.take n)
  | _, _, 0, _ => .nil
  | _, _, _ + 1, .nil => .nil
  | _, _, n + 1, .cons r t => .cons r (Reps.take n t)
theorem Reps.drop : ∀ {vs : List V} {ds : List D} (n : Nat), Reps K mu H vs ds → Reps K mu H (vs.drop n) (ds.drop n)
  | _, _, 0, r => r
  | _, _, _ + 1, .nil => .nil
  | _, _, n + 1, .cons _ t => Reps.drop n t
theorem MoRep.mono (e : Ext mu H mu' H') {a : Addr} (hs : H' a = H a) : ∀ {o : MO}, MoRep K mu H a o → MoRep K mu' H' a o
  | .lst _, ⟨vs, h, r⟩ => ⟨vs, hs.trans h, Reps.mono e r⟩
  | .dct _, ⟨vs, h, r⟩ => ⟨vs, hs.trans h, KReps.mono e r⟩
  | .dcT _, ⟨vs, h, r⟩ => ⟨vs, hs.trans h, KReps.mono e r⟩
  | .ins _ _, ⟨C, dx, vs, hc, h, r⟩ => ⟨C, dx, vs, hc, hs.trans h, KReps.mono e r⟩
  | .tab _ _, ⟨ha, ps, h1, h2, h3⟩ => by
    subst ha
    refine ⟨rfl, ps, hs.trans h1, h2, fun pos cv hc => ?_⟩
    obtain ⟨c, e1, e2⟩ := h3 pos cv hc
    exact ⟨c, e1, e.exts _ _ e2⟩
theorem MoRep.some {a : Addr} : ∀ {o : MO}, MoRep K mu H a o → ∃ u, H a = some u
  | .lst _, ⟨_, h, _⟩ => ⟨_, h⟩
  | .dct _, ⟨_, h, _⟩ => ⟨_, h⟩
  | .dcT _, ⟨_, h, _⟩ => ⟨_, h⟩
  | .ins _ _, ⟨_, _, _, _, h, _⟩ => ⟨_, h⟩
  | .tab _ _, ⟨ha, _, h, _⟩ => by
    subst ha
    exact ⟨_, h⟩
theorem HRep.at {S : Sto} (h : HRep K mu H S) {n : Nat} {o : MO} (e : S[n]? = some o) : ∃ a, mu[n]? = some a ∧ MoRep K mu H a o := by
  have hl : n < mu.length := by rw [← h.len]; exact (List.getElem?_eq_some_iff.mp e).1
  exact ⟨mu[n], List.getElem?_eq_getElem hl, h.ob n o _ e (List.getElem?_eq_getElem hl)⟩
theorem HRep.obj {S : Sto} (h : HRep K mu H S) {n : Nat} {a : Addr} (e : mu[n]? = some a) : ∃ o, S[n]? = some o ∧ MoRep K mu H a o := by
  have hl : n < S.length := by rw [h.len]; exact (List.getElem?_eq_some_iff.mp e).1
  exact ⟨S[n], List.getElem?_eq_getElem hl, h.ob n _ a (List.getElem?_eq_getElem hl) e⟩
theorem HRep.old {S : Sto} (h : HRep K mu H S) {p : Addr} (hp : H p = none) : p ∉ mu := fun hm => by
  obtain ⟨n, e⟩ := List.getElem?_of_mem hm
  obtain ⟨o, _, q⟩ := h.obj e
  obtain ⟨u, e'⟩ := q.some
  rw [hp] at e'
  cases e'
theorem NdefX'.upd_none {H : Hp} {a b : Addr} {o : HO} (e : upd H a o b = none) : H b = none := by
  unfold upd at e
  split at e
  · cases e
  · exact e
theorem ext_tup {p : Addr} {u : HO} (hp : H p = none) : Ext mu H mu (upd H p u) :=
  ⟨⟨[], by simp, fun _ z => nomatch z⟩, fun a h => NdefX'.upd_none h, fun a o _ h => by rw [upd_ne (ne_of_none h hp)]; exact h, fun a o h => by rw [upd_ne (ne_of_none h hp)]; exact h, fun a o h => by rw [upd_ne (ne_of_none h hp)]; exact h,
    fun a ys h => by rw [upd_ne (ne_of_none h hp)]; exact h, fun a o u h => by rw [upd_ne (ne_of_none h hp)]; exact h⟩
/-- a new tuple -/
theorem HRep.tup {S : Sto} {p : Addr} {u : HO} (h : HRep K mu H S) (hp : H p = none) : HRep K mu (upd H p u) S :=
  ⟨h.len, h.nd, fun n o a e e' => (h.ob n o a e e').mono (ext_tup hp) (upd_ne fun z => h.old hp (z ▸ List.mem_of_getElem? e'))⟩
theorem ext_new {p : Addr} {u : HO} (hp : H p = none) : Ext mu H (mu ++ [p]) (upd H p u) :=
  ⟨⟨[p], rfl, fun a z => by
    rw [List.mem_singleton] at z
    subst z
    exact hp⟩, fun a h => NdefX'.upd_none h, fun a o _ h => by rw [upd_ne (ne_of_none h hp)]; exact h, fun a o h => by rw [upd_ne (ne_of_none h hp)]; exact h, fun a o h => by rw [upd_ne (ne_of_none h hp)]; exact h,
    fun a ys h => by rw [upd_ne (ne_of_none h hp)]; exact h, fun a o u h => by rw [upd_ne (ne_of_none h hp)]; exact h⟩
/-- a new object of the store -/
theorem HRep.new {S : Sto} {p : Addr} {u : HO} {o : MO} (h : HRep K mu H S) (hp : H p = none) (q : MoRep K (mu ++ [p]) (upd H p u) p o) : HRep K (mu ++ [p]) (upd H p u) (S ++ [o]) := by
  have hne := h.old hp
  refine ⟨by simp [h.len], ?_, fun n o' a e e' => ?_⟩
  · rw [List.nodup_append]
    exact ⟨h.nd, by simp, fun x hx y hy => by
      simp at hy
      subst hy
      exact fun z => hne (z ▸ hx)⟩
  · by_cases hn : n < S.length
    · rw [List.getElem?_append_left hn] at e
      rw [List.getElem?_append_left (by rw [← h.len]; exact hn)] at e'
      exact (h.ob n o' a e e').mono (ext_new hp) (upd_ne fun z => hne (z ▸ List.mem_of_getElem? e'))
    · have hn' : n = S.length := by
        have := (List.getElem?_eq_some_iff.mp e).1
        simp at this
        omega
      subst hn'
      simp at e
      rw [h.len] at e'
      simp at e'
      subst e e'
      exact q
/-- a thing that is changed in place -/
def Chg : HO → Prop
  | .lst _ | .dK _ | .dT _ | .ins _ _ _ => True
  | _ => False
theorem ext_put {p : Addr} {n : Nat} {u u' : HO} (hn : mu[n]? = some p) (hp : H p = some u') (hc : Chg u') : Ext mu H mu (upd H p u) := by
  have ne : ∀ {a : Addr} {o : HO}, H a = some o → ¬ Chg o → a ≠ p := fun {a o} e c z => by
    subst z
    rw [hp] at e
    cases e
    exact c hc
  refine ⟨⟨[], by simp, fun _ z => nomatch z⟩, fun a h => NdefX'.upd_none h, fun a o ha h => ?_, fun a o h => ?_, fun a o h => ?_, fun a o h => ?_, fun a o x h => ?_⟩
  · have z : a ≠ p := fun z => ha (by rw [z]; exact List.mem_of_getElem? hn)
    rw [upd_ne z]
    exact h
  all_goals
    rw [upd_ne (ne h id)]
    exact h
/-- an object of the store is changed -/
theorem HRep.put {S : Sto} {p : Addr} {n : Nat} {u u' : HO} {o : MO} (h : HRep K mu H S) (hn : mu[n]? = some p) (e : Ext mu H mu (upd H p u)) (q : MoRep K mu (upd H p u) p o) : HRep K mu (upd H p u) (S.set n o) := by
  refine ⟨by simp [h.len], h.nd, fun k o' a e1 e2 => ?_⟩
  by_cases hk : k = n
  · subst hk
    rw [hn] at e2
    cases e2
    have hl : k < S.length := by rw [h.len]; exact (List.getElem?_eq_some_iff.mp hn).1
    rw [List.getElem?_set_self hl] at e1
    cases e1
    exact q
  · rw [List.getElem?_set_ne (Ne.symm hk)] at e1
    refine (h.ob k o' a e1 e2).mono e (upd_ne fun z => hk ?_)
    subst z
    exact nodup_ix' h.nd e2 hn
where
  nodup_ix' {l : List Addr} (hN : l.Nodup) {i j : Nat} {x : Addr} (a : l[i]? = some x) (b : l[j]? = some x) : i = j := by
    obtain ⟨h1, e1⟩ := List.getElem?_eq_some_iff.mp a
    obtain ⟨h2, e2⟩ := List.getElem?_eq_some_iff.mp b
    exact (List.getElem_inj hN).mp (e1.trans e2.symm)
end
end Fa
namespace Fa
open PySem PySem.Spec PyProof.Rows L2
/-! ### what is wanted of a result -/
def Post {α : Type} (K : PySem.W.Frag) (W : WX) (σ : L2.St) (mu : List Addr) (H : Hp) (Q : α → Sto → List Addr → Hp → Prop) : Res α → Prop
  | .ok a S => ∀ mu' H', Ext mu H mu' H' → HRep K mu' H' S → Q a S mu' H'
  | .err x S => ∀ mu' H' cls dd, Ext mu H mu' H' → HRep K mu' H' S → XRep K mu' H' cls dd x → W cls dd σ H'
  | .bad => False
def PostO (K : PySem.W.Frag) (W : WX) (D : Ends) (mu : List Addr) (H : Hp) : Out → Prop
  | .nx r S => ∀ mu' H' σ', Ext mu H mu' H' → HRep K mu' H' S → ERep K mu' H' σ' r → D.nx σ' H'
  | .bk r S => ∀ mu' H' σ', Ext mu H mu' H' → HRep K mu' H' S → ERep K mu' H' σ' r → D.bk σ' H'
  | .ct r S => ∀ mu' H' σ', Ext mu H mu' H' → HRep K mu' H' S → ERep K mu' H' σ' r → D.ct σ' H'
  | .rt d S => ∀ mu' H' v, Ext mu H mu' H' → HRep K mu' H' S → Rep K mu' H' v d → D.rt v H'
  | .ex x r S => ∀ mu' H' σ' cls dd, Ext mu H mu' H' → HRep K mu' H' S → ERep K mu' H' σ' r → XRep K mu' H' cls dd x → W cls dd σ' H'
  | .bad => False
section
variable {α β : Type} {K : PySem.W.Frag} {W : WX} {σ : L2.St} {mu mu' : List Addr} {H H' : Hp} {D : Ends}
theorem Post.later {Q : α → Sto → List Addr → Hp → Prop} (e : Ext mu H mu' H') : ∀ {r : Res α}, Post K W σ mu H Q r → Post K W σ mu' H' Q r
  | .ok _ _, h => fun m2 H2 e2 => h m2 H2 (e.trans e2)
  | .err _ _, h => fun m2 H2 c d e2 => h m2 H2 c d (e.trans e2)
  | .bad, h => h
theorem Post.imp {Q Q' : α → Sto → List Addr → Hp → Prop} : ∀ {r : Res α}, Post K W σ mu H Q r → (∀ a S mu' H', Ext mu H mu' H' → HRep K mu' H' S → Q a S mu' H' → Q' a S mu' H') → Post K W σ mu H Q' r
  | .ok _ _, h, f => fun m2 H2 e2 r2 => f _ _ _ _ e2 r2 (h m2 H2 e2 r2)
  | .err _ _, h, _ => h
  | .bad, h, _ => h
theorem Post.bnd {Q : β → Sto → List Addr → Hp → Prop} {m : M α} {f : α → M β} {S : Sto} (h : Post K W σ mu H Q (bnd m f S)) : Post K W σ mu H (fun a S' mu' H' => Post K W σ mu' H' Q (f a S')) (m S) := by
  unfold Fa.bnd at h
  cases e : m S with
  | ok a S' => rw [e] at h; exact fun m2 H2 e2 _ => h.later e2
  | err x S' => rw [e] at h; exact h
  | bad => rw [e] at h; exact h
theorem PostO.later (e : Ext mu H mu' H') : ∀ {r : Out}, PostO K W D mu H r → PostO K W D mu' H' r
  | .nx _ _, h => fun m2 H2 s e2 => h m2 H2 s (e.trans e2)
  | .bk _ _, h => fun m2 H2 s e2 => h m2 H2 s (e.trans e2)
  | .ct _ _, h => fun m2 H2 s e2 => h m2 H2 s (e.trans e2)
  | .rt _ _, h => fun m2 H2 s e2 => h m2 H2 s (e.trans e2)
  | .ex _ _ _, h => fun m2 H2 s c d e2 => h m2 H2 s c d (e.trans e2)
  | .bad, h => h
end
/-! ### readings -/
def rdE (K : PySem.W.Frag) (W : WX) (m : Env → M D) : TE := fun σ H Q => ∃ r mu S, HRep K mu H S ∧ ERep K mu H σ r ∧ Post K W σ mu H (fun d _ mu' H' => ∀ v, Rep K mu' H' v d → Q v H') (m r S)
def rdT (K : PySem.W.Frag) (W : WX) (m : Env → M Bool) : TT := fun σ H Q => ∃ r mu S, HRep K mu H S ∧ ERep K mu H σ r ∧ Post K W σ mu H (fun b _ _ H' => Q b H') (m r S)
def rdA (K : PySem.W.Frag) (W : WX) (m : Env → M (List D)) : TA := fun σ H Q => ∃ r mu S, HRep K mu H S ∧ ERep K mu H σ r ∧ Post K W σ mu H (fun ds _ mu' H' => ∀ vs, Reps K mu' H' vs ds → Q vs H') (m r S)
def rdS (K : PySem.W.Frag) (W : WX) (m : Env → Sto → Out) : TS := fun D σ H => ∃ r mu S, HRep K mu H S ∧ ERep K mu H σ r ∧ PostO K W D mu H (m r S)
/-- simulations -/
abbrev SE (X : Cx) (W : WX) (e : Expr) (m : Env → M D) : Prop := PE X e (rdE X.K W m)
abbrev ST (X : Cx) (W : WX) (e : Expr) (m : Env → M Bool) : Prop := PT X e (rdT X.K W m)
abbrev SW (X : Cx) (W : WX) (e : Expr) (m : Env → M Bool) : Prop := PW X e (rdT X.K W m)
abbrev SA (X : Cx) (W : WX) (es : List Expr) (m : Env → M (List D)) : Prop := PA X es (rdA X.K W m)
abbrev SS (X : Cx) (W : WX) (st : Stmt) (m : Env → Sto → Out) : Prop := PS X st (rdS X.K W m)
abbrev SB (X : Cx) (W : WX) (st : List Stmt) (m : Env → Sto → Out) : Prop := PSs X st (rdS X.K W m)
theorem peI {X : Cx} {e : Expr} {t t' : TE} (h : PE X e t) (i : ∀ σ H Q, t' σ H Q → t σ H Q) : PE X e t' := ⟨fun p s σ H Q I q => h.run p s σ H Q I (i σ H Q q)⟩
theorem ptI {X : Cx} {e : Expr} {t t' : TT} (h : PT X e t) (i : ∀ σ H Q, t' σ H Q → t σ H Q) : PT X e t' := ⟨fun p s σ H Q I q => h.run p s σ H Q I (i σ H Q q)⟩
theorem pwI {X : Cx} {e : Expr} {t t' : TT} (h : PW X e t) (i : ∀ σ H Q, t' σ H Q → t σ H Q) : PW X e t' := ⟨fun w p s σ H Q I q => h.run w p s σ H Q I (i σ H Q q)⟩
theorem paI {X : Cx} {e : List Expr} {t t' : TA} (h : PA X e t) (i : ∀ σ H Q, t' σ H Q → t σ H Q) : PA X e t' := ⟨fun w p s σ H Q I q => h.run w p s σ H Q I (i σ H Q q)⟩
theorem psI {X : Cx} {e : Stmt} {t t' : TS} (h : PS X e t) (i : ∀ D σ H, t' D σ H → t D σ H) : PS X e t' := ⟨fun p s σ H D I q => h.run p s σ H D I (i D σ H q)⟩
theorem pssI {X : Cx} {e : List Stmt} {t t' : TS} (h : PSs X e t) (i : ∀ D σ H, t' D σ H → t D σ H) : PSs X e t' := ⟨fun p s σ H D I q => h.run p s σ H D I (i D σ H q)⟩
/-! ### combinators -/
def mVar (i : Nat) : Env → M D := fun r => match r[i]? with
  | some (some d) => ret d
  | _ => fail
def mC (d : D) : Env → M D := fun _ => ret d
def m1 (f : D → M D) (a : Env → M D) : Env → M D := fun r => bnd (a r) f
def m2 (f : D → D → M D) (a b : Env → M D) : Env → M D := fun r => bnd (a r) fun x => bnd (b r) fun y => f x y
def mNil : Env → M (List D) := fun _ => ret []
def mCons (a : Env → M D) (b : Env → M (List D)) : Env → M (List D) := fun r => bnd (a r) fun x => bnd (b r) fun xs => ret (x :: xs)
def mA (f : List D → M D) (a : Env → M (List D)) : Env → M D := fun r => bnd (a r) f
def tupD (ds : List D) : M D := if ds.length ≤ sizeLine then ret (.tup ds) else fail
def lstD (ds : List D) : M D := fun S => if ds.length ≤ sizeLine then .ok (.loc S.length) (S ++ [.lst ds]) else .bad
def mIf (c : Env → M Bool) (a b : Env → M D) : Env → M D := fun r => bnd (c r) fun k => if k = true then a r else b r
def isBl : D → M Bool
  | .bl b => ret b
  | _ => fail
def tOf (a : Env → M D) : Env → M Bool := fun r => bnd (a r) isBl
def tNt (a : Env → M Bool) : Env → M Bool := fun r => bnd (a r) fun b => ret (!b)
def tAn (a b : Env → M Bool) : Env → M Bool := fun r => bnd (a r) fun k => if k = true then b r else ret false
def tOr (a b : Env → M Bool) : Env → M Bool := fun r => bnd (a r) fun k => if k = true then ret true else b r
def mNot (a : Env → M D) : Env → M D := fun r => bnd (a r) fun x => bnd (isBl x) fun b => ret (.bl (!b))
def mAnd (a b : Env → M D) : Env → M D := fun r => bnd (a r) fun x => bnd (isBl x) fun k => if k = true then b r else ret (.bl false)
def mOr (a b : Env → M D) : Env → M D := fun r => bnd (a r) fun x => bnd (isBl x) fun k => if k = true then ret (.bl true) else b r
section
variable {X : Cx} {W : WX} {a b : Expr} {es : List Expr} {pos : Pos} {ma mb : Env → M D} {ms : Env → M (List D)}
theorem se_var (i : Nat) {x : Str} (h : PE X (.Name x pos) (tVar i)) : SE X W (.Name x pos) (mVar i) := peI h fun σ H Q q => by
  obtain ⟨r, mu, S, hS, he, hp⟩ := q
  unfold mVar at hp
  cases e : r[i]? with
  | none => rw [e] at hp; exact hp.elim
  | some o =>
    cases o with
    | none => rw [e] at hp; exact hp.elim
    | some d =>
      rw [e] at hp
      obtain ⟨v, hv, rv⟩ := he.get e
      exact ⟨v, hv, hp mu H Ext.refl hS v rv⟩
theorem se_c {v : V} {d : D} (h : PE X a (tC v)) (rv : ∀ K mu H, Rep K mu H v d) : SE X W a (mC d) := peI h fun σ H Q q => by
  obtain ⟨r, mu, S, hS, he, hp⟩ := q
  exact hp mu H Ext.refl hS v (rv _ _ _)
theorem se_int {i j} : SE X W (.Constant (.int i) j pos) (mC (.int i)) := se_c pe_int fun _ _ _ => .int i
theorem se_bl {i j} : SE X W (.Constant (.bool i) j pos) (mC (.bl i)) := se_c pe_bl fun _ _ _ => .bl i
theorem se_non {j} : SE X W (.Constant .none j pos) (mC .non) := se_c pe_non fun _ _ _ => .non
theorem se_str {i j} : SE X W (.Constant (.str i) j pos) (mC (.str i)) := se_c pe_str fun _ _ _ => .str i
/-- an operation on two values -/
def Op2 (K : PySem.W.Frag) (r : R2) (f : D → D → M D) : Prop := ∀ (W : WX) (σ : L2.St) mu H S x y v w (Q : VK), HRep K mu H S → Rep K mu H v x → Rep K mu H w y → Post K W σ mu H (fun d _ mu' H' => ∀ u, Rep K mu' H' u d → Q u H') (f x y S) → r v w H Q
def Op1 (K : PySem.W.Frag) (r : V → Hp → VK → Prop) (f : D → M D) : Prop := ∀ (W : WX) (σ : L2.St) mu H S x v (Q : VK), HRep K mu H S → Rep K mu H v x → Post K W σ mu H (fun d _ mu' H' => ∀ u, Rep K mu' H' u d → Q u H') (f x S) → r v H Q
def OpN (K : PySem.W.Frag) (r : List V → Hp → VK → Prop) (f : List D → M D) : Prop := ∀ (W : WX) (σ : L2.St) mu H S xs vs (Q : VK), HRep K mu H S → Reps K mu H vs xs → Post K W σ mu H (fun d _ mu' H' => ∀ u, Rep K mu' H' u d → Q u H') (f xs S) → r vs H Q
theorem two {f : D → D → M D} {r : R2} (ho : Op2 X.K r f) {σ : L2.St} {H : Hp} {Q : VK} (q : rdE X.K W (m2 f ma mb) σ H Q) : rdE X.K W ma σ H fun x H1 => rdE X.K W mb σ H1 fun y H2 => r x y H2 Q := by
  obtain ⟨r, mu, S, hS, he, hp⟩ := q
  refine ⟨r, mu, S, hS, he, hp.bnd.imp fun x S1 mu1 H1 ex hS1 q1 v rv => ?_⟩
  refine ⟨r, mu1, S1, hS1, he.mono ex, q1.bnd.imp fun y S2 mu2 H2 ex2 hS2 q2 w rw => ?_⟩
  exact ho W σ mu2 H2 S2 x y v w Q hS2 (rv.mono ex2) rw q2
theorem se_op {op : Operator} {f : D → D → M D} {r : R2} (h : OpR X (binaryOp op) r) (ho : Op2 X.K r f) (ha : SE X W a ma) (hb : SE X W b mb) : SE X W (.BinOp a op b pos) (m2 f ma mb) := peI (pe_op h ha hb) fun σ H Q q => two ho q
theorem se_cmp {op : CmpOp} {f : D → D → M D} {r : R2} (h : OpR X (compareOp op) r) (ho : Op2 X.K r f) (ha : SE X W a ma) (hb : SE X W b mb) (hm : behindInMarks op b = false) : SE X W (.Compare a [op] [b] pos) (m2 f ma mb) := peI (pe_cmpR h ha hb hm) fun σ H Q q => two ho q
theorem se_ix {f : D → D → M D} {r : R2} (h : IxR X r) (ho : Op2 X.K r f) (ha : SE X W a ma) (hb : SE X W b mb) (hs : PlainIx b) : SE X W (.Subscript a b pos) (m2 f ma mb) := peI (pe_ix h ha hb hs) fun σ H Q q => two ho q
theorem se_un {op : UnaryOp} {f : D → M D} {r : V → Hp → VK → Prop} (h : UnR X (unaryOp op) r) (ho : Op1 X.K r f) (ha : SE X W a ma) : SE X W (.UnaryOp op a pos) (m1 f ma) := peI (pe_un h ha) fun σ H Q q => by
  obtain ⟨r, mu, S, hS, he, hp⟩ := q
  exact ⟨r, mu, S, hS, he, hp.bnd.imp fun x S1 mu1 H1 ex hS1 q1 v rv => ho W σ mu1 H1 S1 x v Q hS1 rv q1⟩
theorem sa_nil : SA X W [] mNil := paI pa_nil fun σ H Q q => by
  obtain ⟨r, mu, S, hS, he, hp⟩ := q
  exact hp mu H Ext.refl hS [] .nil
theorem sa_cons (ha : SE X W a ma) (hr : SA X W es ms) (hs : starEach (a :: es) X.env = (false, eval a X.env) :: starEach es X.env := by rfl) : SA X W (a :: es) (mCons ma ms) := paI (pa_cons ha hr hs) fun σ H Q q => by
  obtain ⟨r, mu, S, hS, he, hp⟩ := q
  refine ⟨r, mu, S, hS, he, hp.bnd.imp fun x S1 mu1 H1 ex hS1 q1 v rv => ?_⟩
  refine ⟨r, mu1, S1, hS1, he.mono ex, q1.bnd.imp fun y S2 mu2 H2 ex2 hS2 q2 w rw => ?_⟩
  exact q2 mu2 H2 Ext.refl hS2 _ (.cons (rv.mono ex2) rw)
theorem args {f : List D → M D} {r : List V → Hp → VK → Prop} (ho : OpN X.K r f) {σ : L2.St} {H : Hp} {Q : VK} (q : rdE X.K W (mA f ms) σ H Q) : rdA X.K W ms σ H fun xs H1 => r xs H1 Q := by
  obtain ⟨r, mu, S, hS, he, hp⟩ := q
  exact ⟨r, mu, S, hS, he, hp.bnd.imp fun x S1 mu1 H1 ex hS1 q1 v rv => ho W σ mu1 H1 S1 x v Q hS1 rv q1⟩
theorem se_tup {x1} (h : SA X W es ms) : SE X W (.Tuple es x1 pos) (mA tupD ms) := peI (pe_tupF h) fun σ H Q q => args (r := fun xs H1 Q => xs.length ≤ sizeLine ∧ NewF H1 xs Q) (fun W σ mu H S xs vs Q hS hr hp => by
  unfold tupD at hp
  by_cases hl : xs.length ≤ sizeLine
  · rw [if_pos hl] at hp
    exact ⟨by rw [hr.length]; exact hl, fun p o hn hd => hp mu _ (ext_tup hn) (hS.tup hn) _ (.tup hd upd_same (hr.mono (ext_tup hn)))⟩
  · rw [if_neg hl] at hp
    exact hp.elim) q
theorem se_lst (h : SA X W es ms) : SE X W (.List es pos) (mA lstD ms) := peI (pe_lst h) fun σ H Q q => args (r := fun xs H1 Q => xs.length ≤ sizeLine ∧ ∀ p, H1 p = none → Q (.ref p) (upd H1 p (.lst xs))) (fun W σ mu H S xs vs Q hS hr hp => by
  unfold lstD at hp
  by_cases hl : xs.length ≤ sizeLine
  · rw [if_pos hl] at hp
    refine ⟨by rw [hr.length]; exact hl, fun p hn => hp _ _ (ext_new hn) (hS.new hn ⟨vs, upd_same, hr.mono (ext_new hn)⟩) _ (.loc ?_)⟩
    rw [hS.len]
    simp
  · rw [if_neg hl] at hp
    exact hp.elim) q
/-! tests -/
theorem st_of (ha : SE X W a ma) (he : ∀ whole, isTrue a X.env whole = (do let v ← whole; standAt a.pos; holding [v] (truthy v)) := by intro _; rfl) : ST X W a (tOf ma) := ptI (pt_val ha he) fun σ H Q q => by
  obtain ⟨r, mu, S, hS, he, hp⟩ := q
  refine ⟨r, mu, S, hS, he, hp.bnd.imp fun x S1 mu1 H1 ex hS1 q1 v rv => ?_⟩
  cases rv <;> first | exact q1.elim | exact ⟨_, rfl, q1 mu1 H1 Ext.refl hS1⟩
theorem st_cmp {op : CmpOp} {f : D → D → M D} {r : R2} (h : OpR X (compareOp op) r) (ho : Op2 X.K r f) (ha : SE X W a ma) (hb : SE X W b mb) (hm : behindInMarks op b = false) : ST X W (.Compare a [op] [b] pos) (tOf (m2 f ma mb)) := ptI (pt_cmpR h ha hb hm) fun σ H Q q => by
  refine two (r := r) (Q := fun x H' => ∃ k, x = .bl k ∧ Q k H') ho ?_
  obtain ⟨r, mu, S, hS, he, hp⟩ := q
  refine ⟨r, mu, S, hS, he, hp.bnd.imp fun x S1 mu1 H1 ex hS1 q1 v rv => ?_⟩
  cases rv <;> first | exact q1.elim | exact ⟨_, rfl, q1 mu1 H1 Ext.refl hS1⟩
variable {ta tb : Env → M Bool} {rest : List Expr}
theorem st_not (ha : ST X W a ta) : ST X W (.UnaryOp .Not a pos) (tNt ta) := ptI (pt_not ha) fun σ H Q q => by
  obtain ⟨r, mu, S, hS, he, hp⟩ := q
  exact ⟨r, mu, S, hS, he, hp.bnd.imp fun x S1 mu1 H1 ex hS1 q1 => q1 mu1 H1 Ext.refl hS1⟩
theorem sw_and1 (ha : ST X W a ta) : SW X W (.BoolOp .And [a] pos) ta := pw_and1 ha
theorem sw_or1 (ha : ST X W a ta) : SW X W (.BoolOp .Or [a] pos) ta := pw_or1 ha
theorem sw_and (ha : ST X W a ta) (hb : SW X W (.BoolOp .And (b :: rest) pos) tb) : SW X W (.BoolOp .And (a :: b :: rest) pos) (tAn ta tb) := pwI (pw_and ha hb) fun σ H Q q => by
  obtain ⟨r, mu, S, hS, he, hp⟩ := q
  refine ⟨r, mu, S, hS, he, hp.bnd.imp fun k S1 mu1 H1 ex hS1 q1 => ?_⟩
  cases k with
  | true => rw [if_pos rfl] at q1 ⊢; exact ⟨r, mu1, S1, hS1, he.mono ex, q1⟩
  | false => rw [if_neg Bool.false_ne_true] at q1 ⊢; exact q1 mu1 H1 Ext.refl hS1
theorem sw_or (ha : ST X W a ta) (hb : SW X W (.BoolOp .Or (b :: rest) pos) tb) : SW X W (.BoolOp .Or (a :: b :: rest) pos) (tOr ta tb) := pwI (pw_or ha hb) fun σ H Q q => by
  obtain ⟨r, mu, S, hS, he, hp⟩ := q
  refine ⟨r, mu, S, hS, he, hp.bnd.imp fun k S1 mu1 H1 ex hS1 q1 => ?_⟩
  cases k with
  | true => rw [if_pos rfl] at q1 ⊢; exact q1 mu1 H1 Ext.refl hS1
  | false => rw [if_neg Bool.false_ne_true] at q1 ⊢; exact ⟨r, mu1, S1, hS1, he.mono ex, q1⟩
theorem se_if {c : Expr} (hc : ST X W c ta) (ha : SE X W a ma) (hb : SE X W b mb) : SE X W (.IfExp c a b pos) (mIf ta ma mb) := peI (pe_ifExp hc ha hb) fun σ H Q q => by
  obtain ⟨r, mu, S, hS, he, hp⟩ := q
  refine ⟨r, mu, S, hS, he, hp.bnd.imp fun k S1 mu1 H1 ex hS1 q1 => ?_⟩
  cases k with
  | true => rw [if_pos rfl] at q1 ⊢; exact ⟨r, mu1, S1, hS1, he.mono ex, q1⟩
  | false => rw [if_neg Bool.false_ne_true] at q1 ⊢; exact ⟨r, mu1, S1, hS1, he.mono ex, q1⟩
/-! and, or, not as values -/
theorem blOf {σ : L2.St} {mu : List Addr} {H : Hp} {S : Sto} {x : D} {v : V} {f : Bool → M D} {Q : D → Sto → List Addr → Hp → Prop} (rv : Rep X.K mu H v x) (h : Post X.K W σ mu H Q (bnd (isBl x) f S)) : ∃ k, v = .bl k ∧ Post X.K W σ mu H Q (f k S) := by
  cases rv <;> first | exact h.elim | exact ⟨_, rfl, h⟩
theorem se_one {op} (h : SE X W a ma) : SE X W (.BoolOp op [a] pos) ma := pe_one h
theorem se_not (ha : SE X W a ma) : SE X W (.UnaryOp .Not a pos) (mNot ma) := peI (pe_not ha) fun σ H Q q => by
  obtain ⟨r, mu, S, hS, he, hp⟩ := q
  refine ⟨r, mu, S, hS, he, hp.bnd.imp fun x S1 mu1 H1 ex hS1 q1 v rv => ?_⟩
  obtain ⟨k, rfl, q2⟩ := blOf rv q1
  exact ⟨k, rfl, q2 mu1 H1 Ext.refl hS1 _ (.bl _)⟩
theorem se_and (ha : SE X W a ma) (hb : SE X W (.BoolOp .And (b :: rest) pos) mb) : SE X W (.BoolOp .And (a :: b :: rest) pos) (mAnd ma mb) := peI (pe_and ha hb) fun σ H Q q => by
  obtain ⟨r, mu, S, hS, he, hp⟩ := q
  refine ⟨r, mu, S, hS, he, hp.bnd.imp fun x S1 mu1 H1 ex hS1 q1 v rv => ?_⟩
  obtain ⟨k, rfl, q2⟩ := blOf rv q1
  refine ⟨k, rfl, ?_⟩
  cases k with
  | true => rw [if_pos rfl] at q2 ⊢; exact ⟨r, mu1, S1, hS1, he.mono ex, q2⟩
  | false => rw [if_neg Bool.false_ne_true] at q2 ⊢; exact q2 mu1 H1 Ext.refl hS1 _ (.bl _)
theorem se_or (ha : SE X W a ma) (hb : SE X W (.BoolOp .Or (b :: rest) pos) mb) : SE X W (.BoolOp .Or (a :: b :: rest) pos) (mOr ma mb) := peI (pe_or ha hb) fun σ H Q q => by
  obtain ⟨r, mu, S, hS, he, hp⟩ := q
  refine ⟨r, mu, S, hS, he, hp.bnd.imp fun x S1 mu1 H1 ex hS1 q1 v rv => ?_⟩
  obtain ⟨k, rfl, q2⟩ := blOf rv q1
  refine ⟨k, rfl, ?_⟩
  cases k with
  | true => rw [if_pos rfl] at q2 ⊢; exact q2 mu1 H1 Ext.refl hS1 _ (.bl _)
  | false => rw [if_neg Bool.false_ne_true] at q2 ⊢; exact ⟨r, mu1, S1, hS1, he.mono ex, q2⟩
/-! built-ins by name -/
theorem se_callB {x : Str} {p : Pos} {e : Expr} {id : String} {f : List D → M D} {r : List V → Hp → VK → Prop} (hc : CallR X (.builtin id) r) (ho : OpN X.K r f) (hg : Gl X x) (hm : X.mg x = none) (hv : bootBuiltins x = some (.builtin id)) (ha : SA X W (e :: es) ms) (hn : x ≠ "__name__" := by decide) (hdb : (x == ("__debug__" : Str)) = false := by decide)
    (he : starEach (e :: es) X.env = (false, eval e X.env) :: starEach es X.env := by rfl) (hpl : (backTo pos (starEach es X.env)).any (·.1) = false := by rfl) : SE X W (.Call (.Name x p) (e :: es) [] pos) (mA f ms) := peI (pe_callB hc hg hm hv ha hn hdb he hpl) fun σ H Q q => args ho q
theorem se_callTy {x : Str} {p : Pos} {e : Expr} {id : String} {f : List D → M D} {r : List V → Hp → VK → Prop} (hc : CallR X (.type id) r) (ho : OpN X.K r f) (hg : Gl X x) (hm : X.mg x = none) (hv : bootBuiltins x = some (.type id)) (ha : SA X W (e :: es) ms) (hn : x ≠ "__name__" := by decide) (hdb : (x == ("__debug__" : Str)) = false := by decide)
    (he : starEach (e :: es) X.env = (false, eval e X.env) :: starEach es X.env := by rfl) (hpl : (backTo pos (starEach es X.env)).any (·.1) = false := by rfl) : SE X W (.Call (.Name x p) (e :: es) [] pos) (mA f ms) := peI (pe_callTy hc hg hm hv ha hn hdb he hpl) fun σ H Q q => args ho q
end
end Fa
namespace Fa
open PySem PySem.Spec PyProof.Rows L2
/-! ### statements -/
def sNx : Env → Sto → Out := fun r S => .nx r S
def sBk : Env → Sto → Out := fun r S => .bk r S
def sCt : Env → Sto → Out := fun r S => .ct r S
def sBad : Env → Sto → Out := fun _ _ => .bad
def sSeq (a b : Env → Sto → Out) : Env → Sto → Out := fun r S => match a r S with
  | .nx r' S' => b r' S'
  | o => o
def bndO {α : Type} (m : Env → M α) (f : α → Env → Sto → Out) : Env → Sto → Out := fun r S => match m r S with
  | .ok a S' => f a r S'
  | .err x S' => .ex x r S'
  | .bad => .bad
def sEx (m : Env → M D) : Env → Sto → Out := bndO m fun _ r S => .nx r S
def sRet (m : Env → M D) : Env → Sto → Out := bndO m fun d _ S => .rt d S
def sRetN : Env → Sto → Out := fun _ S => .rt .non S
def sIf (c : Env → M Bool) (a b : Env → Sto → Out) : Env → Sto → Out := bndO c fun k r S => if k = true then a r S else b r S
abbrev Tg := D → Env → M Env
def gN (i : Nat) : Tg := fun d r => ret (r.set i (some d))
def gT0 : List D → Env → M Env
  | [], r => ret r
  | _ :: _, _ => fail
def gTc (g : Tg) (k : List D → Env → M Env) : List D → Env → M Env
  | [], _ => fail
  | d :: ds, r => bnd (g d r) fun r' => k ds r'
def gT (k : List D → Env → M Env) : Tg := fun d r => match d with
  | .tup ds => k ds r
  | .ttp ds => k ds r
  | _ => fail
def sAs (m : Env → M D) (g : Tg) : Env → Sto → Out := bndO m fun d r S => match g d r S with
  | .ok r' S' => .nx r' S'
  | .err x S' => .ex x r S'
  | .bad => .bad
section
variable {X : Cx} {W : WX} {e : Expr} {pos : Pos} {m : Env → M D} {c : Env → M Bool} {a b : Env → Sto → Out} {st : Stmt} {rest : List Stmt}
theorem bndO_E {f : D → Env → Sto → Out} {D : Ends} {σ : L2.St} {H : Hp} (q : rdS X.K W (bndO m f) D σ H) : rdE X.K W m σ H fun v H1 => ∃ r mu S d, HRep X.K mu H1 S ∧ ERep X.K mu H1 σ r ∧ Rep X.K mu H1 v d ∧ PostO X.K W D mu H1 (f d r S) := by
  obtain ⟨r, mu, S, hS, he, hp⟩ := q
  refine ⟨r, mu, S, hS, he, ?_⟩
  unfold bndO at hp
  cases e : m r S with
  | ok d S' => rw [e] at hp; exact fun m2 H2 e2 h2 v rv => ⟨r, m2, S', d, h2, he.mono e2, rv, hp.later e2⟩
  | err x S' => rw [e] at hp; exact fun m2 H2 cl dd e2 h2 rx => hp m2 H2 σ cl dd e2 h2 (he.mono e2) rx
  | bad => rw [e] at hp; exact hp
theorem bndO_T {f : Bool → Env → Sto → Out} {D : Ends} {σ : L2.St} {H : Hp} (q : rdS X.K W (bndO c f) D σ H) : rdT X.K W c σ H fun k H1 => ∃ r mu S, HRep X.K mu H1 S ∧ ERep X.K mu H1 σ r ∧ PostO X.K W D mu H1 (f k r S) := by
  obtain ⟨r, mu, S, hS, he, hp⟩ := q
  refine ⟨r, mu, S, hS, he, ?_⟩
  unfold bndO at hp
  cases e : c r S with
  | ok d S' => rw [e] at hp; exact fun m2 H2 e2 h2 => ⟨r, m2, S', h2, he.mono e2, hp.later e2⟩
  | err x S' => rw [e] at hp; exact fun m2 H2 cl dd e2 h2 rx => hp m2 H2 σ cl dd e2 h2 (he.mono e2) rx
  | bad => rw [e] at hp; exact hp
theorem sb_nil : SB X W [] sNx := pssI pss_nil fun D σ H q => by
  obtain ⟨r, mu, S, hS, he, hp⟩ := q
  exact hp mu H σ Ext.refl hS he
theorem sb_cons (h1 : SS X W st a) (h2 : SB X W rest b) : SB X W (st :: rest) (sSeq a b) := pssI (pss_cons h1 h2) fun D σ H q => by
  obtain ⟨r, mu, S, hS, he, hp⟩ := q
  refine ⟨r, mu, S, hS, he, ?_⟩
  unfold sSeq at hp
  cases e : a r S with
  | nx r' S' => rw [e] at hp; exact fun m2 H2 s2 e2 h2 q2 => ⟨r', m2, S', h2, q2, hp.later e2⟩
  | rt d S' => rw [e] at hp; exact hp
  | bk r' S' => rw [e] at hp; exact hp
  | ct r' S' => rw [e] at hp; exact hp
  | ex x r' S' => rw [e] at hp; exact hp
  | bad => rw [e] at hp; exact hp
theorem sb_one (h1 : SS X W st a) : SB X W [st] a := pss_one h1
theorem ss_pass : SS X W (.Pass pos) sNx := psI ps_pass fun D σ H q => by
  obtain ⟨r, mu, S, hS, he, hp⟩ := q
  exact hp mu H σ Ext.refl hS he
theorem ss_break : SS X W (.Break pos) sBk := psI ps_break fun D σ H q => by
  obtain ⟨r, mu, S, hS, he, hp⟩ := q
  exact hp mu H σ Ext.refl hS he
theorem ss_continue : SS X W (.Continue pos) sCt := psI ps_continue fun D σ H q => by
  obtain ⟨r, mu, S, hS, he, hp⟩ := q
  exact hp mu H σ Ext.refl hS he
theorem ss_never : SS X W st sBad := psI ps_never fun D σ H q => by
  obtain ⟨r, mu, S, hS, he, hp⟩ := q
  exact hp
theorem ss_expr (he : SE X W e m) (hs : swapsWith e none pos.line X.env = pure false := by rfl) : SS X W (.Expr e pos) (sEx m) := psI (ps_expr he hs) fun D σ H q => by
  have q1 := bndO_E q
  obtain ⟨r, mu, S, hS, he, hp⟩ := q1
  exact ⟨r, mu, S, hS, he, hp.imp fun d S1 m2 H2 ex h2 q2 v rv => by
    obtain ⟨r', mu', S', d', h1, h3, h4, h5⟩ := q2 v rv
    exact h5 mu' H2 σ Ext.refl h1 h3⟩
theorem ss_ret (he : SE X W e m) : SS X W (.Return (some e) pos) (sRet m) := psI (ps_ret he) fun D σ H q => by
  obtain ⟨r, mu, S, hS, he, hp⟩ := bndO_E q
  exact ⟨r, mu, S, hS, he, hp.imp fun d S1 m2 H2 ex h2 q2 v rv => by
    obtain ⟨r', mu', S', d', h1, h3, h4, h5⟩ := q2 v rv
    exact h5 mu' H2 v Ext.refl h1 h4⟩
theorem ss_retN : SS X W (.Return none pos) sRetN := psI ps_retN fun D σ H q => by
  obtain ⟨r, mu, S, hS, he, hp⟩ := q
  exact hp mu H .non Ext.refl hS .non
theorem ss_if {c' : Expr} {x y : List Stmt} (hc : ST X W c' c) (ha : SB X W x a) (hb : SB X W y b) : SS X W (.If c' x y pos) (sIf c a b) := psI (ps_if hc ha hb) fun D σ H q => by
  obtain ⟨r, mu, S, hS, he, hp⟩ := bndO_T q
  refine ⟨r, mu, S, hS, he, hp.imp fun k S1 m2 H2 ex h2 q2 => ?_⟩
  obtain ⟨r', mu', S', h1, h3, h5⟩ := q2
  cases k with
  | true => rw [if_pos rfl] at h5 ⊢; exact ⟨r', mu', S', h1, h3, h5⟩
  | false => rw [if_neg Bool.false_ne_true] at h5 ⊢; exact ⟨r', mu', S', h1, h3, h5⟩
end
/-! ### targets -/
def rdG (K : PySem.W.Frag) (W : WX) (vs : List Nat) (g : Tg) : TG := fun v σ H Q => ∃ r mu S d, HRep K mu H S ∧ ERep K mu H σ r ∧ Rep K mu H v d ∧ Post K W σ mu H (fun r' _ mu' H' => ∀ σ', ERep K mu' H' σ' r' → wipe σ' vs = wipe σ vs → Q σ' H') (g d r S)
def rdGs (K : PySem.W.Frag) (W : WX) (vs : List Nat) (g : List D → Env → M Env) : TGs := fun v σ H Q => ∃ r mu S d, HRep K mu H S ∧ ERep K mu H σ r ∧ Reps K mu H v d ∧ Post K W σ mu H (fun r' _ mu' H' => ∀ σ', ERep K mu' H' σ' r' → wipe σ' vs = wipe σ vs → Q σ' H') (g d r S)
abbrev SG (X : Cx) (W : WX) (tg : Expr) (vs : List Nat) (g : Tg) : Prop := PG X tg (rdG X.K W vs g)
abbrev SGs (X : Cx) (W : WX) (tg : List Expr) (vs : List Nat) (g : List D → Env → M Env) : Prop := PGs X tg (rdGs X.K W vs g)
theorem wipe_set0 (σ : L2.St) (i : Nat) (v : Option V) : ∀ vs : List Nat, (wipe (σ.set i v) vs).set i none = (wipe σ vs).set i none := by
  intro vs
  induction vs with
  | nil => exact List.set_set ..
  | cons j vs ih =>
    show ((wipe (σ.set i v) vs).set j none).set i none = ((wipe σ vs).set j none).set i none
    by_cases hj : i = j
    · subst hj
      rw [ih]
    · rw [List.set_comm _ _ (Ne.symm hj), ih, List.set_comm _ _ hj]
theorem wipe_set (σ : L2.St) (i : Nat) (v : Option V) : ∀ vs : List Nat, i ∈ vs → wipe (σ.set i v) vs = wipe σ vs := by
  intro vs
  induction vs with
  | nil => intro h; cases h
  | cons j vs ih =>
    intro h
    show (wipe (σ.set i v) vs).set j none = (wipe σ vs).set j none
    by_cases hj : i = j
    · subst hj
      exact wipe_set0 σ i v vs
    · rcases List.mem_cons.mp h with h | h
      · exact absurd h hj
      · rw [ih h]
theorem wipe_append (σ : L2.St) (vs ws : List Nat) : wipe σ (vs ++ ws) = wipe (wipe σ ws) vs := by
  induction vs with
  | nil => rfl
  | cons j vs ih =>
    show (wipe σ (vs ++ ws)).set j none = (wipe (wipe σ ws) vs).set j none
    rw [ih]
theorem wipe_swap (σ : L2.St) (j : Nat) : ∀ ws : List Nat, wipe (σ.set j none) ws = (wipe σ ws).set j none := by
  intro ws
  induction ws with
  | nil => rfl
  | cons i ws ih =>
    show (wipe (σ.set j none) ws).set i none = ((wipe σ ws).set i none).set j none
    rw [ih]
    by_cases h : j = i
    · rw [h]
    · rw [List.set_comm _ _ h]
theorem wipe_comm (σ : L2.St) (vs ws : List Nat) : wipe (wipe σ vs) ws = wipe (wipe σ ws) vs := by
  induction vs with
  | nil => rfl
  | cons j vs ih =>
    show wipe ((wipe σ vs).set j none) ws = (wipe (wipe σ ws) vs).set j none
    rw [wipe_swap, ih]
section
variable {X : Cx} {W : WX} {pos : Pos} {es : List Expr} {e : Expr}
theorem sg_name {i : Nat} {x : Str} (h : PG X (.Name x pos) (gName i)) : SG X W (.Name x pos) [i] (gN i) := ⟨fun p s σ H v u Q I rv q => h.run p s σ H v u Q I rv (by
  obtain ⟨r, mu, S, d, hS, he, hr, hp⟩ := q
  exact hp mu H Ext.refl hS _ (he.set hr i) (wipe_set _ _ _ _ (List.mem_singleton.mpr rfl)))⟩
theorem sgs_nil : SGs X W [] [] gT0 := ⟨fun p s σ H v u Q I rv q => pgs_nil.run p s σ H v u Q I rv (by
  obtain ⟨r, mu, S, d, hS, he, hr, hp⟩ := q
  cases hr with
  | nil => exact ⟨rfl, hp mu H Ext.refl hS _ he rfl⟩
  | cons _ _ => exact hp.elim)⟩
theorem sgs_cons {vs ws : List Nat} {g : Tg} {k : List D → Env → M Env} (h1 : SG X W e vs g) (h2 : SGs X W es ws k) (hk : ∀ d r S x S', k d r S ≠ .err x S')
    (hs : (assignEach (e :: es) X.env).map (·.2) = assign e X.env :: (assignEach es X.env).map (·.2) := by rfl) : SGs X W (e :: es) (vs ++ ws) (gTc g k) := ⟨fun p s σ H v u Q I rv q => (pgs_cons h1 h2 hs).run p s σ H v u Q I rv (by
  obtain ⟨r, mu, S, d, hS, he, hr, hp⟩ := q
  cases hr with
  | nil => exact hp.elim
  | cons h t =>
    rename_i v0 vr d0 dr
    refine ⟨v0, vr, rfl, r, mu, S, d0, hS, he, h, ?_⟩
    have hp1 : Post X.K W σ mu H _ (bnd (g d0 r) (fun r' => k dr r') S) := hp
    refine hp1.bnd.imp fun r' S1 mu1 H1 ex hS1 q1 σ' he' hw => ?_
    refine ⟨r', mu1, S1, dr, hS1, he', t.mono ex, ?_⟩
    cases e : k dr r' S1 with
    | ok r2 S2 =>
      rw [e] at q1
      exact fun m2 H2 e2 h2 σ2 he2 hw2 => q1 m2 H2 e2 h2 σ2 he2 (by rw [wipe_append, wipe_append, hw2, wipe_comm σ', hw, wipe_comm σ])
    | err x S2 => exact absurd e (hk _ _ _ _ _)
    | bad => rw [e] at q1; exact q1)⟩
theorem gN_noerr {i : Nat} : ∀ d r S x S', gN i d r S ≠ .err x S' := fun _ _ _ _ _ h => by cases h
theorem gT0_noerr : ∀ d r S x S', gT0 d r S ≠ .err x S' := fun d _ _ _ _ h => by cases d <;> cases h
theorem gTc_noerr {g : Tg} {k : List D → Env → M Env} (hg : ∀ d r S x S', g d r S ≠ .err x S') (hk : ∀ d r S x S', k d r S ≠ .err x S') : ∀ d r S x S', gTc g k d r S ≠ .err x S' := fun d r S x S' h => by
  cases d with
  | nil => cases h
  | cons d ds =>
    have h' : bnd (g d r) (fun r' => k ds r') S = .err x S' := h
    unfold bnd at h'
    cases e : g d r S with
    | ok a S1 => rw [e] at h'; exact hk _ _ _ _ _ h'
    | err y S1 => exact hg _ _ _ _ _ e
    | bad => rw [e] at h'; cases h'
theorem gT_noerr {k : List D → Env → M Env} (hk : ∀ d r S x S', k d r S ≠ .err x S') : ∀ d r S x S', gT k d r S ≠ .err x S' := fun d r S x S' h => by
  cases d <;> first | exact hk _ _ _ _ _ h | cases h
theorem sg_tup {vs : List Nat} {k : List D → Env → M Env} {n j : Nat} (hc : X.calm = true) (h : SGs X W es vs k) (hn : (assignEach es X.env).length = n) (hz : ∀ ds r S r' S', k ds r S = .ok r' S' → ds.length = n) (hk : ∀ d r S x S', k d r S ≠ .err x S')
    (hst : (assignEach es X.env).findIdx? (·.1) = none := by rfl) : SG X W (.Tuple es j pos) vs (gT k) := ⟨fun p s σ H v u Q I rv q => (pg_tup hc h hn hst).run p s σ H v u Q I rv (by
  obtain ⟨r, mu, S, d, hS, he, hr, hp⟩ := q
  cases hr with
  | tup hd hq hrs =>
    rename_i ad ws ds oo
    have hp' : Post X.K W σ mu H _ (k ds r S) := hp
    refine ⟨_, _, rfl, sqT_t hq, ?_, r, mu, S, _, hS, he, hrs, hp'⟩
    rw [hrs.length]
    cases e : k ds r S with
    | ok r' S' => exact hz _ _ _ _ _ e
    | err x S' => exact absurd e (hk _ _ _ _ _)
    | bad => rw [e] at hp'; exact hp'.elim
  | ttp hq hrs =>
    rename_i ad ws ds
    have hp' : Post X.K W σ mu H _ (k ds r S) := hp
    refine ⟨_, _, rfl, (.inl (.inl hq)), ?_, r, mu, S, _, hS, he, hrs, hp'⟩
    rw [hrs.length]
    cases e : k ds r S with
    | ok r' S' => exact hz _ _ _ _ _ e
    | err x S' => exact absurd e (hk _ _ _ _ _)
    | bad => rw [e] at hp'; exact hp'.elim
  | _ => exact hp.elim)⟩
theorem gT0_len : ∀ ds r S r' S', gT0 ds r S = .ok r' S' → ds.length = 0 := fun ds _ _ _ _ h => by cases ds with
  | nil => rfl
  | cons _ _ => cases h
theorem gTc_len {g : Tg} {k : List D → Env → M Env} {n : Nat} (hz : ∀ ds r S r' S', k ds r S = .ok r' S' → ds.length = n) : ∀ ds r S r' S', gTc g k ds r S = .ok r' S' → ds.length = n + 1 := fun ds r S r' S' h => by
  cases ds with
  | nil => cases h
  | cons d ds =>
    have h' : bnd (g d r) (fun r' => k ds r') S = .ok r' S' := h
    unfold bnd at h'
    cases e : g d r S with
    | ok a S1 => rw [e] at h'; rw [List.length_cons, hz _ _ _ _ _ h']
    | err y S1 => rw [e] at h'; cases h'
    | bad => rw [e] at h'; cases h'
variable {m : Env → M D}
theorem as_go {vs : List Nat} {g : Tg} {D : Ends} {σ : L2.St} {H : Hp} (q : rdS X.K W (sAs m g) D σ H) : rdE X.K W m σ H fun x H1 => rdG X.K W vs g x σ H1 D.nx := by
  obtain ⟨r, mu, S, hS, he, hp⟩ := bndO_E q
  refine ⟨r, mu, S, hS, he, hp.imp fun d S1 m2 H2 ex h2 q2 v rv => ?_⟩
  obtain ⟨r', mu', S', d', h1, h3, h4, h5⟩ := q2 v rv
  refine ⟨r', mu', S', d', h1, h3, h4, ?_⟩
  cases e : g d' r' S' with
  | ok r2 S2 => rw [e] at h5; exact fun m3 H3 e3 h3 σ3 he3 _ => h5 m3 H3 σ3 e3 h3 he3
  | err x S2 => rw [e] at h5; exact fun m3 H3 cl dd e3 hr3 rx => h5 m3 H3 σ cl dd e3 hr3 (h3.mono e3) rx
  | bad => rw [e] at h5; exact h5
theorem ss_set {i : Nat} {x : Str} {pos' : Pos} (hN : X.N.Nodup) (hi : X.N[i]? = some x) (hx : Loc X.env.scope x) (he : SE X W e m) (hs : swapsWith e (some (.Name x pos')) pos.line X.env = pure false := by rfl) (hf : X.fn x = true ∨ X.env.scope.names.lookup x = some .local := by first | exact .inl rfl | exact .inr rfl | assumption) :
    SS X W (.Assign [.Name x pos'] e pos) (sAs m (gN i)) := psI (ps_set hN hi hx he hs hf) fun D σ H q => by
  obtain ⟨r, mu, S, hS, he, hp⟩ := as_go (vs := [i]) q
  refine ⟨r, mu, S, hS, he, hp.imp fun d S1 m2 H2 ex h2 q2 v rv => ?_⟩
  obtain ⟨r', mu', S', d', h1, h3, h4, h5⟩ := q2 v rv
  exact h5 mu' H2 Ext.refl h1 _ (h3.set h4 i) (wipe_set _ _ _ _ (List.mem_singleton.mpr rfl))
theorem ss_as {tg : Expr} {vs : List Nat} {g : Tg} (he : SE X W e m) (hg : SG X W tg vs g) (hs : swapsWithSole [tg] e pos.line X.env = pure false := by rfl) (hw : swappedStores [tg] e X.env = pure none := by rfl)
    (h1 : (assignEach [tg] X.env).map (·.2) = [assign tg X.env] := by rfl) : SS X W (.Assign [tg] e pos) (sAs m g) := psI (ps_asg he hg hs hw h1) fun D σ H q => as_go q
end
/-! two names at once, from a written pair -/
def sPar (i j : Nat) (ms : Env → M (List D)) : Env → Sto → Out := bndO ms fun ds r S => match ds with
  | [x, y] => .nx ((r.set i (some x)).set j (some y)) S
  | _ => .bad
theorem ss_par {X : Cx} {W : WX} {i j : Nat} {x y : Str} {a b : Expr} {ms : Env → M (List D)} {px py pt pos : Pos} {kt k2 pt2} (hc : X.calm = true) (hN : X.N.Nodup) (hi : X.N[i]? = some x) (hj : X.N[j]? = some y) (hij : i ≠ j)
    (hx : X.env.scope.names.lookup x = some .local) (hy : X.env.scope.names.lookup y = some .local) (ha : SA X W [a, b] ms)
    (hw : swappedStores [.Tuple [.Name x px, .Name y py] kt pt] (.Tuple [a, b] k2 pt2) X.env = pure (some [x, y]))
    (hs : swapsWithSole [.Tuple [.Name x px, .Name y py] kt pt] (.Tuple [a, b] k2 pt2) pos.line X.env = pure false := by rfl) :
    SS X W (.Assign [.Tuple [.Name x px, .Name y py] kt pt] (.Tuple [a, b] k2 pt2) pos) (sPar i j ms) := psI (ps_par hc hN hi hj hij hx hy ha hw hs) fun D σ H q => by
  obtain ⟨r, mu, S, hS, he, hp⟩ := q
  refine ⟨r, mu, S, hS, he, ?_⟩
  unfold sPar bndO at hp
  cases e : ms r S with
  | ok d S' =>
    rw [e] at hp
    intro m2 H2 e2 h2 vs rv
    cases rv with
    | nil => exact hp.elim
    | cons r1 t =>
      cases t with
      | nil => exact hp.elim
      | cons r2 t =>
        cases t with
        | nil => exact ⟨_, _, rfl, hp m2 H2 _ e2 h2 (((he.mono e2).set r1 i).set r2 j)⟩
        | cons _ _ => exact hp.elim
  | err z S' => rw [e] at hp; exact fun m2 H2 cl dd e2 h2 rx => hp m2 H2 σ cl dd e2 h2 (he.mono e2) rx
  | bad => rw [e] at hp; exact hp
end Fa
namespace Fa
open PySem PySem.Spec PyProof.Rows L2
/-! ### what is walked -/
inductive Src where
  | items (ds : List D) | lst (n : Nat) | rng (lo : Int) (k : Nat) | txt (x : Str) | zip (xs ys : List D)
def srcOf : D → M Src
  | .tup ds => ret (.items ds)
  | .ktp ds => ret (.items ds)
  | .rls ds => ret (.items ds)
  | .str x => ret (.txt x)
  | .loc n => fun S => match S[n]? with
    | some (.lst _) => .ok (.lst n) S
    | _ => .bad
  | _ => fail
def rngOk (j : Int) : Bool := decide (-(2 ^ 62) ≤ j) && decide (j < 2 ^ 62)
def rngOf1 : List D → M Src
  | [.int j] => if rngOk j = true then ret (.rng 0 j.toNat) else fail
  | _ => fail
def rngOf2 : List D → M Src
  | [.int i, .int j] => if (rngOk i && rngOk j) = true then ret (.rng i (j - i).toNat) else fail
  | _ => fail
def nextD (src : Src) (i : Nat) (S : Sto) : Option (Option D) := match src with
  | .items ds => some ds[i]?
  | .lst n => match S[n]? with
    | some (.lst ds) => some ds[i]?
    | _ => none
  | .rng lo k => some (if i < k then some (.int (lo + i)) else none)
  | .txt x => some (x.cps[i]?.map fun c => .str ⟨#[c]⟩)
  | .zip xs ys => some (match xs[i]?, ys[i]? with
    | some a, some b => some (.ttp [a, b])
    | _, _ => none)
def turns (src : Src) (S : Sto) : Nat := match src with
  | .items ds => ds.length
  | .lst n => match S[n]? with
    | some (.lst ds) => ds.length
    | _ => 0
  | .rng _ k => k
  | .txt x => x.cps.size
  | .zip xs ys => min xs.length ys.length
def ItOk (K : PySem.W.Frag) (mu : List Addr) (H : Hp) (src : Src) (J : It) : Prop := match src with
  | .items ds => ∃ a vs, Reps K mu H vs ds ∧ ((SqT K H a vs ∧ J = Itt K a) ∨ (SqR K H a vs ∧ J = Itl K a))
  | .lst n => ∃ a, mu[n]? = some a ∧ J = Itl K a
  | .rng lo k => J = Itr lo k
  | .txt x => J = Its x
  | .zip xs ys => ∃ a b vs ws, Reps K mu H vs xs ∧ Reps K mu H ws ys ∧ SqT K H a vs ∧ SqT K H b ws ∧ J = RZ.ItzT K a b
def rdI (K : PySem.W.Frag) (W : WX) (m : Env → M Src) : TI := fun σ H R => ∃ r mu S, HRep K mu H S ∧ ERep K mu H σ r ∧ Post K W σ mu H (fun src _ mu' H' => ∀ J, ItOk K mu' H' src J → R J H') (m r S)
abbrev SI (X : Cx) (W : WX) (tg it : Expr) (m : Env → M Src) : Prop := PI X tg it (rdI X.K W m)
theorem SqR.sqL {K : PySem.W.Frag} {H : Hp} {a : Addr} {vs : List V} (h : SqR K H a vs) : SqL K H a vs := by
  rcases h with ⟨o, h⟩ | h
  · exact .inl (.inr ⟨o, h⟩)
  · exact .inr h
theorem ItOk.mono {K : PySem.W.Frag} {mu mu' : List Addr} {H H' : Hp} {src : Src} {J : It} (e : Ext mu H mu' H') (h : ItOk K mu H src J) : ItOk K mu' H' src J := by
  cases src with
  | items ds =>
    obtain ⟨a, vs, r, q⟩ := h
    refine ⟨a, vs, r.mono e, ?_⟩
    rcases q with ⟨q, z⟩ | ⟨q, z⟩
    · exact .inl ⟨e.sqT q, z⟩
    · exact .inr ⟨e.sqR q, z⟩
  | lst n =>
    obtain ⟨a, q, z⟩ := h
    exact ⟨a, e.get q, z⟩
  | rng lo k => exact h
  | txt x => exact h
  | zip xs ys =>
    obtain ⟨a, b, vs, ws, r1, r2, q1, q2, z⟩ := h
    exact ⟨a, b, vs, ws, r1.mono e, r2.mono e, e.sqT q1, e.sqT q2, z⟩
theorem int_of {v : V} {K : PySem.W.Frag} {mu : List Addr} {H : Hp} {i : Int} (h : Rep K mu H v (.int i)) : v = .int i := by cases h; rfl
theorem str_of {v : V} {K : PySem.W.Frag} {mu : List Addr} {H : Hp} {i : Str} (h : Rep K mu H v (.str i)) : v = .str i := by cases h; rfl
/-- a turn: what is next, or the end -/
theorem ItOk.stop {K : PySem.W.Frag} {mu : List Addr} {H : Hp} {S : Sto} {src : Src} {J : It} {i : Nat} (h : ItOk K mu H src J) (hS : HRep K mu H S) (e : nextD src i S = some none) : J.stop i H := by
  cases src with
  | items ds =>
    obtain ⟨a, vs, r, q⟩ := h
    have hl : vs.length ≤ i := by
      rw [r.length]
      exact List.getElem?_eq_none_iff.mp (Option.some.inj e)
    rcases q with ⟨q, rfl⟩ | ⟨q, rfl⟩
    · exact ⟨vs, q, hl⟩
    · exact ⟨vs, q.sqL, hl⟩
  | lst n =>
    obtain ⟨a, q, rfl⟩ := h
    obtain ⟨o, ho, hm⟩ := hS.obj q
    simp only [nextD, ho] at e
    cases o with
    | lst ds =>
      obtain ⟨vs, h1, h2⟩ := hm
      refine ⟨vs, .inl (.inl h1), ?_⟩
      rw [h2.length]
      exact List.getElem?_eq_none_iff.mp (Option.some.inj e)
    | dct _ => cases e
    | dcT _ => cases e
    | tab _ _ => cases e
    | ins _ _ => cases e
  | rng lo k =>
    cases h
    simp only [nextD] at e
    by_cases hk : i < k
    · rw [if_pos hk] at e; cases e
    · exact Nat.le_of_not_lt hk
  | txt x =>
    cases h
    have e' : x.cps[i]?.map (fun c => D.str ⟨#[c]⟩) = none := Option.some.inj e
    exact Array.getElem?_eq_none_iff.mp (Option.map_eq_none_iff.mp e')
  | zip xs ys =>
    obtain ⟨a, b, vs, ws, r1, r2, q1, q2, rfl⟩ := h
    refine ⟨vs, ws, q1, q2, ?_⟩
    have e' := Option.some.inj e
    rw [r1.length, r2.length]
    by_cases h1 : i < xs.length
    · by_cases h2 : i < ys.length
      · rw [List.getElem?_eq_getElem h1, List.getElem?_eq_getElem h2] at e'
        cases e'
      · exact .inr (Nat.le_of_not_lt h2)
    · exact .inl (Nat.le_of_not_lt h1)
theorem ItOk.go0 {K : PySem.W.Frag} {mu : List Addr} {H : Hp} {S : Sto} {src : Src} {J : It} {i : Nat} {d : D} (hz : ∀ xs ys, src ≠ .zip xs ys) (h : ItOk K mu H src J) (hS : HRep K mu H S) (e : nextD src i S = some (some d)) : J.go i H ∧ ∀ x H', J.yld i H x H' → H' = H ∧ Rep K mu H x d := by
  cases src with
  | items ds =>
    obtain ⟨a, vs, r, q⟩ := h
    obtain ⟨v, hv, rv⟩ := r.get (Option.some.inj e)
    rcases q with ⟨q, rfl⟩ | ⟨q, rfl⟩
    · refine ⟨⟨vs, v, q, hv⟩, fun x H' y => ⟨y.1, ?_⟩⟩
      have := y.2 vs q
      rw [hv] at this
      cases this
      exact rv
    · refine ⟨⟨vs, v, q.sqL, hv⟩, fun x H' y => ⟨y.1, ?_⟩⟩
      have := y.2 vs q.sqL
      rw [hv] at this
      cases this
      exact rv
  | lst n =>
    obtain ⟨a, q, rfl⟩ := h
    obtain ⟨o, ho, hm⟩ := hS.obj q
    simp only [nextD, ho] at e
    cases o with
    | lst ds =>
      obtain ⟨vs, h1, h2⟩ := hm
      obtain ⟨v, hv, rv⟩ := h2.get (Option.some.inj e)
      refine ⟨⟨vs, v, .inl (.inl h1), hv⟩, fun x H' y => ⟨y.1, ?_⟩⟩
      have := y.2 vs (.inl (.inl h1))
      rw [hv] at this
      cases this
      exact rv
    | dct _ => cases e
    | dcT _ => cases e
    | tab _ _ => cases e
    | ins _ _ => cases e
  | rng lo k =>
    cases h
    simp only [nextD] at e
    by_cases hk : i < k
    · rw [if_pos hk] at e
      cases e
      refine ⟨hk, fun x H' y => ⟨y.1, ?_⟩⟩
      rw [y.2]
      exact .int _
    · rw [if_neg hk] at e; cases e
  | txt x =>
    cases h
    have e' : x.cps[i]?.map (fun c => D.str ⟨#[c]⟩) = some d := Option.some.inj e
    obtain ⟨c, e1, e2⟩ := Option.map_eq_some_iff.mp e'
    subst e2
    refine ⟨(Array.getElem?_eq_some_iff.mp e1).1, fun v H' y => ⟨y.1, ?_⟩⟩
    obtain ⟨c', e3, e4⟩ := y.2
    rw [e1] at e3
    cases e3
    rw [e4]
    exact .str _
  | zip xs ys => exact absurd rfl (hz xs ys)
theorem ItOk.go {K : PySem.W.Frag} {mu : List Addr} {H : Hp} {S : Sto} {src : Src} {J : It} {i : Nat} {d : D} (h : ItOk K mu H src J) (hS : HRep K mu H S) (e : nextD src i S = some (some d)) : J.go i H ∧ ∀ x H', J.yld i H x H' → Ext mu H mu H' ∧ HRep K mu H' S ∧ Rep K mu H' x d := by
  by_cases hz : ∀ xs ys, src ≠ .zip xs ys
  · obtain ⟨h1, h2⟩ := ItOk.go0 hz h hS e
    refine ⟨h1, fun x H' y => ?_⟩
    obtain ⟨e1, r⟩ := h2 x H' y
    subst e1
    exact ⟨Ext.refl, hS, r⟩
  · cases src with
    | zip xs ys =>
      obtain ⟨a, b, vs, ws, r1, r2, q1, q2, rfl⟩ := h
      have e' := Option.some.inj e
      cases ea : xs[i]? with
      | none => rw [ea] at e'; cases e'
      | some da =>
        cases eb : ys[i]? with
        | none => rw [ea, eb] at e'; cases e'
        | some db =>
          rw [ea, eb] at e'
          cases e'
          obtain ⟨v, hv, rv⟩ := r1.get ea
          obtain ⟨w, hw, rw⟩ := r2.get eb
          refine ⟨⟨vs, ws, v, w, q1, q2, hv, hw⟩, fun x H' y => ?_⟩
          obtain ⟨T, x1, y1, rfl, hT, rfl, h1, h2⟩ := y
          have e1 := h1 vs q1
          have e2 := h2 ws q2
          rw [hv] at e1
          rw [hw] at e2
          cases e1
          cases e2
          exact ⟨ext_tup hT, hS.tup hT, .ttp upd_same (.cons (rv.mono (ext_tup hT)) (.cons (rw.mono (ext_tup hT)) .nil))⟩
    | _ => exact absurd (fun _ _ z => nomatch z) hz
section
variable {X : Cx} {W : WX} {tg l : Expr} {m : Env → M D}
theorem pi_any {tl : TE} (hl : PE X l tl) : PI X tg l (fun σ H R => tl σ H fun x H1 => (∃ a, x = .ref a ∧ ((∃ xs, SqL X.K H1 a xs ∧ R (Itl X.K a) H1) ∨ ∃ xs, SqT X.K H1 a xs ∧ R (Itt X.K a) H1)) ∨ ∃ z, x = .str z ∧ R (Its z) H1) := by
  constructor
  intro pins s σ H R I h
  refine thn (hl.run pins s σ H _ I h) fun v s1 q => ?_
  obtain ⟨x, H1, I1, r1, q⟩ := q
  rcases q with ⟨a, rfl, q⟩ | ⟨z, rfl, q⟩
  rotate_left
  · obtain ⟨t, rfl⟩ := r1
    cases ha : z.cps.all (· < 128)
    · exact wpAny_pyIter_wide ha (pi_one (tk := s1.toks) I1 _ (turn_str _ z t "str_iterator" (.inr rfl)) ⟨_, Heap.get?_push_size _ rfl, rfl, rfl⟩ q)
    · exact wpAny_pyIter_ascii ha (pi_one (tk := s1.toks) I1 _ (turn_str _ z t "str_ascii_iterator" (.inl rfl)) ⟨_, Heap.get?_push_size _ rfl, rfl, rfl⟩ q)
  cases r1
  have fresh : ∀ b ∈ [s1.heap.objs.size], FpOk X pins H1 b := fun b hb => by
    rw [List.mem_singleton] at hb
    rw [hb]
    exact I1.fpOk (Nat.le_refl _) (I1.hok.fresh (Nat.le_refl _))
  rcases q with ⟨xs, hq, q⟩ | ⟨xs, hq, q⟩
  · obtain ⟨its, _, p, _⟩ := I1.list hq
    exact wpAny_pyIter_list p.isList ⟨_, [s1.heap.objs.size], _, _, H1, rfl, I1.kept (t' := s1.toks) fun b o e => Heap.get?_push_of_some _ e, turn_list a _, ⟨_, Heap.get?_push_size _ rfl, rfl, rfl⟩, fresh, q⟩
  · obtain ⟨its, _, p, _⟩ := I1.tuple hq
    have p' : s1.heap.IsTuple a its.toArray := p
    exact wpAny_pyIter_tuple p' ⟨_, [s1.heap.objs.size], _, _, H1, rfl, I1.kept (t' := s1.toks) fun b o e => Heap.get?_push_of_some _ e, turn_tuple a _, ⟨_, Heap.get?_push_size _ rfl, rfl, rfl⟩, fresh, q⟩
def mSrc (m : Env → M D) : Env → M Src := fun r => bnd (m r) srcOf
def mRng1 (m : Env → M (List D)) : Env → M Src := fun r => bnd (m r) rngOf1
def mRng2 (m : Env → M (List D)) : Env → M Src := fun r => bnd (m r) rngOf2
theorem si_any (hl : SE X W l m) : SI X W tg l (mSrc m) := ⟨fun pins s σ H R I q => (pi_any hl).run pins s σ H R I (by
  obtain ⟨r, mu, S, hS, he, hp⟩ := q
  refine ⟨r, mu, S, hS, he, hp.bnd.imp fun d S1 m2 H2 ex h2 q2 v rv => ?_⟩
  cases rv with
  | str x => exact .inr ⟨_, rfl, q2 m2 H2 Ext.refl h2 _ rfl⟩
  | tup hd hq hr => exact .inl ⟨_, rfl, .inr ⟨_, sqT_t hq, q2 m2 H2 Ext.refl h2 _ ⟨_, _, hr, .inl ⟨sqT_t hq, rfl⟩⟩⟩⟩
  | ktp hq hr => exact .inl ⟨_, rfl, .inr ⟨_, sqT_k hq, q2 m2 H2 Ext.refl h2 _ ⟨_, _, hr, .inl ⟨sqT_k hq, rfl⟩⟩⟩⟩
  | rls hq hr => exact .inl ⟨_, rfl, .inl ⟨_, hq.sqL, q2 m2 H2 Ext.refl h2 _ ⟨_, _, hr, .inr ⟨hq, rfl⟩⟩⟩⟩
  | loc hn =>
    rename_i a n
    obtain ⟨o, ho, hm⟩ := h2.obj hn
    have q2' : Post X.K W σ m2 H2 _ (match S1[n]? with
      | some (.lst _) => Res.ok (Src.lst n) S1
      | _ => .bad) := q2
    rw [ho] at q2'
    cases o with
    | lst ds =>
      obtain ⟨vs, h1, hr⟩ := hm
      exact .inl ⟨_, rfl, .inl ⟨vs, .inl (.inl h1), q2' m2 H2 Ext.refl h2 _ ⟨a, hn, rfl⟩⟩⟩
    | dct _ => exact q2'.elim
    | dcT _ => exact q2'.elim
    | tab _ _ => exact q2'.elim
    | ins _ _ => exact q2'.elim
  | _ => exact q2.elim)⟩
theorem rngOk_of {j : Int} (h : rngOk j = true) : -(2 ^ 62) ≤ j ∧ j < 2 ^ 62 := by
  unfold rngOk at h
  rw [Bool.and_eq_true] at h
  exact ⟨of_decide_eq_true h.1, of_decide_eq_true h.2⟩
theorem si_range1 {a : Expr} {ms : Env → M (List D)} {p pos : Pos} (hg : Gl X "range") (hm : X.mg "range" = none) (ha : SA X W [a] ms) (hs : starEach [a] X.env = [(false, eval a X.env)] := by rfl) : SI X W tg (.Call (.Name "range" p) [a] [] pos) (mRng1 ms) := ⟨fun pins s σ H R I q => (pi_range1 hg hm ha hs).run pins s σ H R I (by
  obtain ⟨r, mu, S, hS, he, hp⟩ := q
  refine ⟨r, mu, S, hS, he, hp.bnd.imp fun ds S1 m2 H2 ex h2 q2 vs rv => ?_⟩
  match ds, vs, rv, q2 with
  | [.int j], _, .cons (.int _) .nil, q2 =>
    have q2' : Post X.K W σ m2 H2 _ ((if rngOk j = true then ret (Src.rng 0 j.toNat) else fail) S1) := q2
    by_cases hj : rngOk j = true
    · rw [if_pos hj] at q2'
      exact ⟨j, rfl, (rngOk_of hj).1, (rngOk_of hj).2, q2' m2 H2 Ext.refl h2 _ rfl⟩
    · rw [if_neg hj] at q2'
      exact q2'.elim
  | [], _, _, q2 => exact q2.elim
  | x :: _ :: _, _, _, q2 => cases x <;> exact q2.elim
  | [.non], _, _, q2 => exact q2.elim
  | [.bl _], _, _, q2 => exact q2.elim
  | [.str _], _, _, q2 => exact q2.elim
  | [.tup _], _, _, q2 => exact q2.elim
  | [.rls _], _, _, q2 => exact q2.elim
  | [.loc _], _, _, q2 => exact q2.elim
  | [.adr _], _, _, q2 => exact q2.elim
  | [.ty _], _, _, q2 => exact q2.elim)⟩
theorem si_range2 {a b : Expr} {ms : Env → M (List D)} {p pos : Pos} (hg : Gl X "range") (hm : X.mg "range" = none) (ha : SA X W [a, b] ms) (hs : starEach [a, b] X.env = [(false, eval a X.env), (false, eval b X.env)] := by rfl) (hs2 : starEach [b] X.env = [(false, eval b X.env)] := by rfl) :
    SI X W tg (.Call (.Name "range" p) [a, b] [] pos) (mRng2 ms) := ⟨fun pins s σ H R I q => (pi_range2 hg hm ha hs hs2).run pins s σ H R I (by
  obtain ⟨r, mu, S, hS, he, hp⟩ := q
  refine ⟨r, mu, S, hS, he, hp.bnd.imp fun ds S1 m2 H2 ex h2 q2 vs rv => ?_⟩
  unfold rngOf2 at q2
  split at q2
  · rename_i i j
    by_cases hj : (rngOk i && rngOk j) = true
    · rw [if_pos hj] at q2
      rw [Bool.and_eq_true] at hj
      match vs, rv with
      | _, .cons (.int _) (.cons (.int _) .nil) =>
        exact ⟨i, j, rfl, ⟨(rngOk_of hj.1).1, (rngOk_of hj.1).2, (rngOk_of hj.2).1, (rngOk_of hj.2).2⟩, q2 m2 H2 Ext.refl h2 _ rfl⟩
    · rw [if_neg hj] at q2
      exact q2.elim
  · exact q2.elim)⟩
end
/-! ### for -/
def forGo (src : Src) (g : Tg) (body : Env → Sto → Out) : Nat → Nat → Env → Sto → Out
  | 0, i, r, S => match nextD src i S with
    | some none => .nx r S
    | _ => .bad
  | k + 1, i, r, S => match nextD src i S with
    | some none => .nx r S
    | none => .bad
    | some (some d) => match g d r S with
      | .err x S' => .ex x r S'
      | .bad => .bad
      | .ok r' S' => match body r' S' with
        | .nx r2 S2 => forGo src g body k (i + 1) r2 S2
        | .ct r2 S2 => forGo src g body k (i + 1) r2 S2
        | .bk r2 S2 => .nx r2 S2
        | o => o
def sFor (m : Env → M Src) (g : Tg) (body : Env → Sto → Out) : Env → Sto → Out := bndO m fun src r S => forGo src g body (turns src S) 0 r S
theorem ss_for {X : Cx} {W : WX} {tg iter : Expr} {body : List Stmt} {m : Env → M Src} {vs : List Nat} {g : Tg} {b : Env → Sto → Out} {pos : Pos} (hp : PassesOwn (model X.prog X.w) X.A X.env X.xe) (hc : X.calm = true) (hi : SI X W tg iter m) (hg : SG X W tg vs g) (hb : SB X W body b)
    (hs : ∀ x, foldedSetIterable iter X.env x = pure x := by intro _; rfl) : SS X W (.For tg iter body [] pos) (sFor m g b) := psI (ps_for hp hc hi hg hb hs) fun D σ H q => by
  obtain ⟨r, mu, S, hS, he, hp⟩ := q
  refine ⟨r, mu, S, hS, he, ?_⟩
  unfold sFor bndO at hp
  cases e : m r S with
  | err x S' => rw [e] at hp; exact fun m2 H2 cl dd e2 h2 rx => hp m2 H2 σ cl dd e2 h2 (he.mono e2) rx
  | bad => rw [e] at hp; exact hp
  | ok src S' =>
    rw [e] at hp
    intro m2 H2 e2 h2 J hJ
    refine ⟨fun i k σ H => ∃ r mu S, HRep X.K mu H S ∧ ERep X.K mu H σ r ∧ ItOk X.K mu H src J ∧ PostO X.K W D mu H (forGo src g b k i r S), ⟨turns src S', r, m2, S', h2, he.mono e2, hJ, hp.later e2⟩, fun i k σ H hW => ?_⟩
    obtain ⟨r, mu, S, hS, he, hJ, hp⟩ := hW
    cases en : nextD src i S with
    | none =>
      exfalso
      cases k with
      | zero => unfold forGo at hp; rw [en] at hp; exact hp
      | succ k => unfold forGo at hp; rw [en] at hp; exact hp
    | some o =>
      cases o with
      | none =>
        left
        refine ⟨hJ.stop hS en, ?_⟩
        cases k with
        | zero => unfold forGo at hp; rw [en] at hp; exact hp mu H σ Ext.refl hS he
        | succ k => unfold forGo at hp; rw [en] at hp; exact hp mu H σ Ext.refl hS he
      | some d =>
        right
        obtain ⟨hgo, hy⟩ := hJ.go hS en
        cases k with
        | zero => unfold forGo at hp; rw [en] at hp; exact hp.elim
        | succ k =>
          refine ⟨hgo, fun σ H => ∃ r mu S, HRep X.K mu H S ∧ ERep X.K mu H σ r ∧ ItOk X.K mu H src J ∧ PostO X.K W D mu H (forGo src g b k (i + 1) r S), fun σ' H' hN => ⟨k, Nat.lt_succ_self k, hN⟩, fun x H' y => ?_⟩
          obtain ⟨exy, hSy, rx⟩ := hy x H' y
          replace hS := hSy
          replace he := he.mono exy
          replace hp := hp.later exy
          replace hJ := hJ.mono exy
          refine ⟨r, mu, S, d, hS, he, rx, ?_⟩
          unfold forGo at hp
          simp only [en] at hp
          cases eg : g d r S with
          | err x S' => simp only [eg] at hp; exact fun m3 H3 cl dd e3 h3 rx => hp m3 H3 σ cl dd e3 h3 (he.mono e3) rx
          | bad => simp only [eg] at hp; exact hp
          | ok r' S' =>
            simp only [eg] at hp
            intro m3 H3 e3 h3 σ3 he3 _
            refine ⟨r', m3, S', h3, he3, ?_⟩
            cases eb : b r' S' with
            | nx r2 S2 => rw [eb] at hp; exact fun m4 H4 σ4 e4 h4 q4 => ⟨r2, m4, S2, h4, q4, (hJ.mono e3).mono e4, (hp.later e3).later e4⟩
            | ct r2 S2 => rw [eb] at hp; exact fun m4 H4 σ4 e4 h4 q4 => ⟨r2, m4, S2, h4, q4, (hJ.mono e3).mono e4, (hp.later e3).later e4⟩
            | bk r2 S2 => rw [eb] at hp; exact fun m4 H4 σ4 e4 h4 q4 => hp m4 H4 σ4 (e3.trans e4) h4 q4
            | rt d2 S2 => rw [eb] at hp; exact fun m4 H4 σ4 e4 h4 q4 => hp m4 H4 σ4 (e3.trans e4) h4 q4
            | ex x r2 S2 => rw [eb] at hp; exact fun m4 H4 σ4 cl dd e4 h4 q4 q5 => hp m4 H4 σ4 cl dd (e3.trans e4) h4 q4 q5
            | bad => rw [eb] at hp; exact hp
/-! ### list comprehensions -/
def wipeE (r : Env) : List Nat → Env
  | [] => r
  | v :: vs => (wipeE r vs).set v none
theorem ERep.wipe {K : PySem.W.Frag} {mu : List Addr} {H : Hp} {σ : L2.St} {r : Env} (h : ERep K mu H σ r) : ∀ vs : List Nat, ERep K mu H (wipe σ vs) (wipeE r vs)
  | [] => h
  | v :: vs => setN v (ERep.wipe h vs)
where
  setN {K : PySem.W.Frag} {mu : List Addr} {H : Hp} : ∀ {s : L2.St} {r : Env} (i : Nat), ERep K mu H s r → ERep K mu H (s.set i none) (r.set i none)
    | _, _, _, .nil => .nil
    | _, _, 0, .cons _ t => .cons trivial t
    | _, _, i + 1, .cons q t => .cons q (setN i t)
def push (n : Nat) (d : D) : Sto → Option Sto := fun S => match S[n]? with
  | some (.lst ds) => if ds.length < sizeLine then some (S.set n (.lst (ds ++ [d]))) else none
  | _ => none
def lcGo (src : Src) (g : Tg) (t : Env → M Bool) (e : Env → M D) (n : Nat) (r : Env) : Nat → Nat → Sto → Res D
  | 0, i, S => match nextD src i S with
    | some none => .ok (.loc n) S
    | _ => .bad
  | k + 1, i, S => match nextD src i S with
    | some none => .ok (.loc n) S
    | none => .bad
    | some (some d) => match g d r S with
      | .ok r' S' => match t r' S' with
        | .ok true S2 => match e r' S2 with
          | .ok y S3 => match push n y S3 with
            | some S4 => lcGo src g t e n r k (i + 1) S4
            | none => .bad
          | _ => .bad
        | .ok false S2 => lcGo src g t e n r k (i + 1) S2
        | _ => .bad
      | _ => .bad
def mLc (m : Env → M Src) (g : Tg) (t : Env → M Bool) (e : Env → M D) (vs : List Nat) : Env → M D := fun r => bnd (m r) fun src S => lcGo src g t e S.length (wipeE r vs) (turns src S) 0 (S ++ [.lst []])
abbrev W0 : WX := fun _ _ _ _ => False
theorem push_of {K : PySem.W.Frag} {mu : List Addr} {H : Hp} {S S' : Sto} {n : Nat} {d : D} {a : Addr} {v : V} (hS : HRep K mu H S) (hn : mu[n]? = some a) (rv : Rep K mu H v d) (h : push n d S = some S') : ∃ acc, H a = some (.lst acc) ∧ acc.length < sizeLine ∧ Ext mu H mu (upd H a (.lst (acc ++ [v]))) ∧ HRep K mu (upd H a (.lst (acc ++ [v]))) S' := by
  obtain ⟨o, ho, hm⟩ := hS.obj hn
  unfold push at h
  rw [ho] at h
  cases o with
  | lst ds =>
    obtain ⟨vs, h1, hr⟩ := hm
    by_cases hl : ds.length < sizeLine
    · have h' : (if ds.length < sizeLine then some (S.set n (.lst (ds ++ [d]))) else none) = some S' := h
      rw [if_pos hl] at h'
      cases h'
      have ex : Ext mu H mu (upd H a (.lst (vs ++ [v]))) := ext_put hn h1 trivial
      refine ⟨vs, h1, by rw [hr.length]; exact hl, ex, hS.put (u' := .lst vs) hn ex ⟨_, upd_same, (hr.append (.cons rv .nil)).mono ex⟩⟩
    · have h' : (if ds.length < sizeLine then some (S.set n (.lst (ds ++ [d]))) else none) = some S' := h
      rw [if_neg hl] at h'
      cases h'
  | dct _ => cases h
  | dcT _ => cases h
  | tab _ _ => cases h
  | ins _ _ => cases h
structure PTsS (X : Cx) (ifs : List Expr) (t : Env → M Bool) : Prop where
  to : PTs X ifs (rdT X.K W0 t)
def tT : Env → M Bool := fun _ => ret true
theorem pts0 {X : Cx} : PTs X [] (rdT X.K W0 tT) := ⟨fun p s σ H Q I q => pts_nil.run p s σ H Q I (by
  obtain ⟨r, mu, S, hS, he, hp⟩ := q
  exact hp mu H Ext.refl hS)⟩
theorem lc_go {X : Cx} {W : WX} {m : Env → M Src} {vs : List Nat} {g : Tg} {t : Env → M Bool} {e : Env → M D} {σ : L2.St} {H : Hp} {Q : VK} (q : rdE X.K W (mLc m g t e vs) σ H Q) : tLc (rdI X.K W m) (rdG X.K W0 vs g) (rdT X.K W0 t) (rdE X.K W0 e) vs σ H Q := by
  obtain ⟨r, mu, S, hS, he, hp⟩ := q
  refine ⟨r, mu, S, hS, he, hp.bnd.imp fun src S1 m2 H2 ex h2 q2 J hJ D hD => ?_⟩
  have hn : (m2 ++ [D])[S1.length]? = some D := by rw [h2.len]; simp
  refine ⟨fun i k H => ∃ mu S, HRep X.K mu H S ∧ Ext (m2 ++ [D]) (upd H2 D (.lst [])) mu H ∧ Post X.K W σ mu H (fun d _ mu' H' => ∀ v, Rep X.K mu' H' v d → Q v H') (lcGo src g t e S1.length (wipeE r vs) k i S), ⟨turns src S1, m2 ++ [D], S1 ++ [.lst []], h2.new (o := .lst []) hD ⟨[], upd_same, .nil⟩, Ext.refl, q2.later (ext_new hD)⟩, fun i k H hW => ?_⟩
  obtain ⟨mu, S, hS, ex2, hp⟩ := hW
  have hJ' := (hJ.mono (ext_new hD)).mono ex2
  have he' := ((he.mono ex).mono (ext_new (u := .lst []) hD)).mono ex2
  have hn' := ex2.get hn
  cases en : nextD src i S with
  | none =>
    exfalso
    cases k with
    | zero => unfold lcGo at hp; rw [en] at hp; exact hp
    | succ k => unfold lcGo at hp; rw [en] at hp; exact hp
  | some o =>
    cases o with
    | none =>
      left
      refine ⟨hJ'.stop hS en, ?_⟩
      cases k with
      | zero => unfold lcGo at hp; rw [en] at hp; exact hp mu H Ext.refl hS _ (.loc hn')
      | succ k => unfold lcGo at hp; rw [en] at hp; exact hp mu H Ext.refl hS _ (.loc hn')
    | some d =>
      right
      obtain ⟨hgo, hy⟩ := hJ'.go hS en
      cases k with
      | zero => unfold lcGo at hp; rw [en] at hp; exact hp.elim
      | succ k =>
        refine ⟨hgo, fun H => ∃ mu S, HRep X.K mu H S ∧ Ext (m2 ++ [D]) (upd H2 D (.lst [])) mu H ∧ Post X.K W σ mu H (fun d _ mu' H' => ∀ v, Rep X.K mu' H' v d → Q v H') (lcGo src g t e S1.length (wipeE r vs) k (i + 1) S), fun H' hN => ⟨k, Nat.lt_succ_self k, hN⟩, fun x H' y => ?_⟩
        obtain ⟨exy, hSy, rx⟩ := hy x H' y
        replace hS := hSy
        replace he' := he'.mono exy
        replace hp := hp.later exy
        replace ex2 := ex2.trans exy
        refine ⟨wipeE r vs, mu, S, d, hS, he'.wipe vs, rx, ?_⟩
        unfold lcGo at hp
        simp only [en] at hp
        cases eg : g d (wipeE r vs) S with
        | err x S' => simp only [eg] at hp; exact hp.elim
        | bad => simp only [eg] at hp; exact hp
        | ok r' S' =>
          simp only [eg] at hp
          intro m3 H3 e3 h3 σ3 he3 hw
          have wi2 : wipe (wipe σ vs) vs = wipe σ vs := wipe_twice σ vs
          refine ⟨by rw [hw, wi2], r', m3, S', h3, he3, ?_⟩
          cases et : t r' S' with
          | err x S2 => rw [et] at hp; exact hp.elim
          | bad => rw [et] at hp; exact hp
          | ok kk S2 =>
            rw [et] at hp
            intro m4 H4 e4 h4
            cases kk with
            | false =>
              rw [if_neg Bool.false_ne_true]
              exact ⟨m4, S2, h4, (ex2.trans e3).trans e4, (hp.later e3).later e4⟩
            | true =>
              rw [if_pos rfl]
              refine ⟨r', m4, S2, h4, he3.mono e4, ?_⟩
              cases ee : e r' S2 with
              | err x S3 => simp only [ee] at hp; exact hp.elim
              | bad => simp only [ee] at hp; exact hp
              | ok yv S3 =>
                simp only [ee] at hp
                intro m5 H5 e5 h5 v rv
                cases ep : push S1.length yv S3 with
                | none => rw [ep] at hp; exact hp.elim
                | some S4 =>
                  rw [ep] at hp
                  obtain ⟨acc, p1, p2, p3, p4⟩ := push_of h5 (((e3.trans e4).trans e5).get hn') rv ep
                  exact ⟨acc, p1, p2, m5, S4, p4, (((ex2.trans e3).trans e4).trans e5).trans p3, (((hp.later e3).later e4).later e5).later p3⟩
where
  wipe_twice (σ : L2.St) (vs : List Nat) : wipe (wipe σ vs) vs = wipe σ vs := by
    have : ∀ ws : List Nat, (∀ i ∈ ws, i ∈ vs) → wipe (wipe σ vs) ws = wipe σ vs := by
      intro ws
      induction ws with
      | nil => intro _; rfl
      | cons j ws ih =>
        intro h
        show (wipe (wipe σ vs) ws).set j none = wipe σ vs
        rw [ih fun i hi => h i (List.mem_cons_of_mem _ hi)]
        rw [← wipe_swap, wipe_set]
        exact h j List.mem_cons_self
    exact this vs fun _ h => h
theorem se_lc {X : Cx} {W : WX} {elt tg iter : Expr} {ifs : List Expr} {scope : Scope} {own : List (Str × Nat)} {pos : Pos} {m : Env → M Src} {g : Tg} {t : Env → M Bool} {e : Env → M D} (hc : X.calm = true) (hN : X.N.Nodup) (hi : SI X W tg iter m) (ok : BlkOk X.N X.env.scope scope own)
    (hg : ∀ (s : Shared) (H : Hp) (C : Addr) (cl : List (Str × Addr)) (fp : List Addr), SG (X.blk s H scope (compEnvC scope cl C X.env) fp) W0 tg (own.map (·.2)) g)
    (ht : ∀ (s : Shared) (H : Hp) (C : Addr) (cl : List (Str × Addr)) (fp : List Addr), PTs (X.blk s H scope (compEnvC scope cl C X.env) fp) ifs (rdT X.K W0 t))
    (he : ∀ (s : Shared) (H : Hp) (C : Addr) (cl : List (Str × Addr)) (fp : List Addr), SE (X.blk s H scope (compEnvC scope cl C X.env) fp) W0 elt e) (hs : ∀ x, foldedSetIterable iter X.env x = pure x := by intro _; rfl) :
    SE X W (.ListComp elt [⟨tg, iter, ifs, 0⟩] scope pos) (mLc m g t e (own.map (·.2))) := peI (pe_lc hc hN hi ok hg ht he hs) fun σ H Q q => lc_go q
theorem ss_setLc {X : Cx} {W : WX} {i : Nat} {y : Str} {py : Pos} {elt tg iter : Expr} {ifs : List Expr} {scope : Scope} {own : List (Str × Nat)} {pos spos : Pos} {m : Env → M Src} {g : Tg} {t : Env → M Bool} {e : Env → M D} (hc : X.calm = true) (hN : X.N.Nodup) (hy : X.N[i]? = some y) (hyl : X.env.scope.names.lookup y = some .local)
    (hsw : swapsWith (.ListComp elt [⟨tg, iter, ifs, 0⟩] scope pos) (some (.Name y py)) spos.line X.env = pure true) (hi : SI X W tg iter m) (ok : BlkOk X.N X.env.scope scope own)
    (hg : ∀ (s : Shared) (H : Hp) (C : Addr) (cl : List (Str × Addr)) (fp : List Addr), SG (X.blk s H scope (compEnvC scope cl C X.env) fp) W0 tg (own.map (·.2)) g)
    (ht : ∀ (s : Shared) (H : Hp) (C : Addr) (cl : List (Str × Addr)) (fp : List Addr), PTs (X.blk s H scope (compEnvC scope cl C X.env) fp) ifs (rdT X.K W0 t))
    (he : ∀ (s : Shared) (H : Hp) (C : Addr) (cl : List (Str × Addr)) (fp : List Addr), SE (X.blk s H scope (compEnvC scope cl C X.env) fp) W0 elt e) (hs : ∀ x, foldedSetIterable iter X.env x = pure x := by intro _; rfl) :
    SS X W (.Assign [.Name y py] (.ListComp elt [⟨tg, iter, ifs, 0⟩] scope pos) spos) (sAs (mLc m g t e (own.map (·.2))) (gN i)) := psI (ps_setLc hc hN hy hyl hsw hi ok hg ht he hs) fun D σ H q => lc_go (by
  obtain ⟨r, mu, S, hS, he, hp⟩ := as_go (vs := [i]) q
  refine ⟨r, mu, S, hS, he, hp.imp fun d S1 m2 H2 ex h2 q2 v rv => ?_⟩
  obtain ⟨r', mu', S', d', h1, h3, h4, h5⟩ := q2 v rv
  exact h5 mu' H2 Ext.refl h1 _ (h3.set h4 i) (wipe_set _ _ _ _ (List.mem_singleton.mpr rfl)))
end Fa
namespace Fa
open PySem PySem.Spec PyProof.Rows L2
/-! ### defs: called where no repr runs -/
def prom (K : PySem.W.Frag) (F : List D → M D) : Sp := fun vs H Q E => ∃ ds mu S, HRep K mu H S ∧ Reps K mu H vs ds ∧ Post K (fun c d _ H => E c d H) [] mu H (fun d _ mu' H' => ∀ v, Rep K mu' H' v d → Q v H') (F ds S)
def FnG (P : Program) (w : World) (K : PySem.W.Frag) (mg : Str → Option Value) (base : Heap) (k : Nat) (f : Addr) (fd : FuncData) (ps : List Str) (F : List D → M D) : Prop :=
  ∀ (A : Around) (outer : List PySem.Env) (s : Shared) (H : Hp) (ar : Args) (us : List Value) (vs : List V) (Q : VK) (E : XK), Room k A → A.guards = some [] → Env0 P w K mg base A outer s H →
    BindsTo s fd ar (ps.zip us) → Vals vs us → vs.length = ps.length → prom K F vs H Q E → codeAny (model P w) A (.call (.ref f) ar) (CR (L2.CX P w) outer P w H s Q E) s
theorem FnG.mono {P : Program} {w : World} {K : PySem.W.Frag} {mg : Str → Option Value} {base : Heap} {j k : Nat} {f : Addr} {fd : FuncData} {ps : List Str} {F : List D → M D} (G : FnG P w K mg base j f fd ps F) (h : j ≤ k) : FnG P w K mg base k f fd ps F :=
  fun A outer s H ar us vs Q E hr => G A outer s H ar us vs Q E (hr.mono h)
/-- the def's function: n names, np parameters -/
def fnM (n np : Nat) (body : Env → Sto → Out) : List D → M D := fun ds S => if ds.length = np then
    match body (ds.map some ++ List.replicate (n - np) none) S with
    | .nx _ S' => .ok .non S'
    | .rt d S' => .ok d S'
    | .ex x _ S' => .err x S'
    | _ => .bad
  else .bad
theorem erep_start {K : PySem.W.Frag} {mu : List Addr} {H : Hp} (n : Nat) : ∀ {vs : List V} {ds : List D}, Reps K mu H vs ds → ERep K mu H (vs.map some ++ List.replicate n none) (ds.map some ++ List.replicate n none)
  | _, _, .nil => by
    induction n with
    | zero => exact .nil
    | succ n ih => exact .cons trivial ih
  | _, _, .cons h t => .cons h (erep_start n t)
abbrev WF (E : XK) : WX := fun c d _ H => E c d H
theorem fnG_mk {P : Program} {w : World} {K : PySem.W.Frag} {mg : Str → Option Value} {base : Heap} {x qual : Str} {st : Stmt} {f : Addr} {fd : FuncData} {N ps : List Str} {k : Nat} {m : Env → Sto → Out} (Fu : Fun K x qual st f fd) (sc : FnScope N ps (defScope st))
    (hb : ∀ (cdv : Value) (A : Around) (outer : List PySem.Env) (s : Shared) (H : Hp) (E : XK), Room k (A.deeper (envOfC qual (defScope st) s.heap.objs.size f cdv)) → A.guards = some [] →
      Takes (cxOf (L2.CX P w) P w K mg base N qual (defScope st) f cdv A outer s H E) (WF E) → SB (cxOf (L2.CX P w) P w K mg base N qual (defScope st) f cdv A outer s H E) (WF E) (defBody st) m) :
    FnG P w K mg base (k + 1) f fd ps (fnM N.length ps.length m) := by
  intro A outer s H ar us vs Q E hr hgd e0 hbi rv hl hpr
  obtain ⟨oc, od, kV, doc, pm, an, cdv, ct, osl, rfl, lk, hcd⟩ := Fu.ex
  have kept : ∀ b o, base.get? b = some o → s.heap.get? b = some o := fun b o q => (e0.bs b o q).1
  have KX : K.In s.heap := e0.mod.kin.keeps kept
  have hkind : ∀ y ∈ ps.zip us, (defScope st).names.lookup y.1 = some .local ∨ ((defScope st).names.lookup y.1 = some .cell ∧ ((cellsFrom (s.heap.objs.size + 1) (defScope st).names []).lookup y.1).isSome = true) := by
    intro y hy
    rcases sc.par y.1 (List.of_mem_zip (a := y.1) (b := y.2) hy).1 with z | z
    · exact Or.inl z
    · exact Or.inr ⟨z, PySem.W.cellsFrom_some _ _ _ (.inl z)⟩
  refine codeAny_call_function hr.depth (KX _ _ lk) rfl sc.co sc.gen rfl (PySem.W.codeRec_of KX hcd) (hbi _ _ _ _ ?_)
  refine wpAny_newFunctionEnv_cells sc.kind hkind fun env he s1 inC => ?_
  subst he
  refine ⟨(e0.mod.nolimit.keeps kept).keeps inC.toInCall.keep, codeAny_func ?_⟩
  have I := inv_start (CX := L2.CX P w) (E := E) sc hr.hd e0 hl rv inC
  have B := hb cdv A outer s H E (hr.deeper _) hgd (takes_of rfl rfl rfl rfl)
  obtain ⟨ds, mu, S, hS, hrs, hp⟩ := hpr
  refine wpAny_mono (B.run [] s1 (start N vs) H { nx := fun _ H' => Q .non H', rt := Q } I ?_) (fun fl s' hs => ?_) fun e s' hs => hs
  · refine ⟨_, mu, S, hS, erep_start _ hrs, ?_⟩
    rw [hl]
    have hl2 : ds.length = ps.length := by rw [← hrs.length]; exact hl
    unfold fnM at hp
    rw [if_pos hl2] at hp
    cases eo : m (ds.map some ++ List.replicate (N.length - ps.length) none) S with
    | nx r S' => rw [eo] at hp; exact fun m2 H2 σ2 e2 h2 _ => hp m2 H2 e2 h2 _ .non
    | rt d S' => rw [eo] at hp; exact fun m2 H2 v e2 h2 q2 => hp m2 H2 e2 h2 v q2
    | bk r S' => rw [eo] at hp; exact hp.elim
    | ct r S' => rw [eo] at hp; exact hp.elim
    | ex z r S' => rw [eo] at hp; exact fun m2 H2 σ2 c dd e2 h2 _ q2 => hp m2 H2 c dd e2 h2 q2
    | bad => rw [eo] at hp; exact hp
  · cases fl with
    | ret u =>
      obtain ⟨v, σ', H', J, r', q⟩ := hs
      exact ⟨v, H', J.os, J.bare, J.base, J.hok, r', q⟩
    | next =>
      obtain ⟨σ', H', J, q⟩ := hs
      exact ⟨V.non, H', J.os, J.bare, J.base, J.hok, rfl, q⟩
    | brk => exact hs.elim fun _ z => z.elim fun _ z => z.2.elim
    | cont => exact hs.elim fun _ z => z.elim fun _ z => z.2.elim
/-! ### calls of defs -/
section
variable {X : Cx} {W : WX} {k : Nat} {f : Addr} {fd : FuncData} {ps ks : List Str} {F : List D → M D} {x : Str} {p pos : Pos} {e : Expr} {es : List Expr} {kws : List Keyword} {ms mk : Env → M (List D)}
theorem runG {pins : List (Addr × Obj)} {σ : L2.St} {H : Hp} {s : Shared} {Q : VK} {ar : Args} {us : List Value} {vs : List V} (G : FnG X.prog X.w X.K X.mg X.base k f fd ps F) (hr : Room k X.A) (hgd : X.A.guards = some []) (tk : Takes X W)
    (I : Inv X pins σ H s) (hbi : BindsTo s fd ar (ps.zip us)) (rv : Vals vs us) (hl : vs.length = ps.length) (h : prom X.K F vs H Q (WE W σ)) : wpAny (model X.prog X.w) X.A (call (.ref f) ar.pos ar.kw) (EP X pins σ Q) X.xe s := by
  refine wpAny_call (codeAny_mono (G X.A X.stack s H ar us vs Q (WE W σ) hr hgd I.env0 hbi rv hl h) fun res s' hq => ?_)
  cases res with
  | error y => exact passAt tk σ pins H s y s' I hq
  | ok fl =>
    cases fl with
    | ret u => exact I.after hq
    | _ => exact False.elim hq
theorem prom_of {σ : L2.St} {mu : List Addr} {H : Hp} {S : Sto} {ds : List D} {vs : List V} {Q : VK} (hS : HRep X.K mu H S) (hr : Reps X.K mu H vs ds) (h : Post X.K W σ mu H (fun d _ mu' H' => ∀ v, Rep X.K mu' H' v d → Q v H') (F ds S)) : prom X.K F vs H Q (WE W σ) := by
  refine ⟨ds, mu, S, hS, hr, ?_⟩
  cases eo : F ds S with
  | ok d S' => rw [eo] at h; exact h
  | err z S' => rw [eo] at h; exact h
  | bad => rw [eo] at h; exact h
/-- how many arguments the def takes; with others it is not called here -/
def arity (n : Nat) (F : List D → M D) : Prop := ∀ ds S, ds.length ≠ n → F ds S = .bad
theorem fnM_arity {n np : Nat} {b : Env → Sto → Out} : arity np (fnM n np b) := fun ds S h => by
  unfold fnM
  rw [if_neg h]
theorem se_call (G : FnG X.prog X.w X.K X.mg X.base k f fd ps F) (hr : Room k X.A) (hgd : X.A.guards = some []) (tk : Takes X W) (hg : Gl X x) (hm : X.mg x = some (.ref f)) (hk : PySem.W.keepIn X.K (.ref f) = true) (hb : Binds X.K fd ps []) (ar : arity ps.length F)
    (ha : SA X W (e :: es) ms) (hdb : (x == ("__debug__" : Str)) = false := by decide) (he : starEach (e :: es) X.env = (false, eval e X.env) :: starEach es X.env := by rfl) (hpl : (backTo pos (starEach es X.env)).any (·.1) = false := by rfl) :
    SE X W (.Call (.Name x p) (e :: es) [] pos) (mA F ms) := by
  constructor
  intro pins s σ H Q I q
  obtain ⟨r, mu, S, hS, hE, hp⟩ := q
  refine wpAny_Call_Name_kw (ld_glob I hg hm ?_ hdb)
  have q1 : rdA X.K W ms σ H fun vs H1 => vs.length = ps.length ∧ prom X.K F vs H1 Q (WE W σ) := by
    refine ⟨r, mu, S, hS, hE, hp.bnd.imp fun ds S1 m2 H2 ex h2 q2 vs rv => ?_⟩
    refine ⟨?_, prom_of h2 rv q2⟩
    rw [rv.length]
    refine Decidable.byContradiction fun z => ?_
    rw [ar ds S1 z] at q2
    exact q2
  refine PySem.W.callWith_K (h₀ := X.base) I.ok.mod.kin hk (thn (ha.run pos pins s σ H _ I q1) fun us s1 z => ?_) he hpl
  obtain ⟨vs, H1, I1, rv, hl, hpr⟩ := z
  refine ⟨I1.kIn, runG (ar := ⟨us, []⟩) (us := us) G hr hgd tk I1 ?_ rv hl hpr⟩
  have b := hb s1 us I1.kIn (by rw [List.append_nil, ← rv.length]; exact hl)
  rwa [List.append_nil] at b
end
/-! ### the law's own call -/
theorem law_go {P : Program} {w : World} {K : PySem.W.Frag} {mg mb : Str → Option Value} {k : Nat} {fa a : Addr} {fd : FuncData} {x : Str} {F : List D → M D} {s : Shared} {vs : List Value} {ns : List Int}
    (KX : K.In s.heap) (hns : s.heap.Ns mainGlobals mg) (hbn : s.heap.Ns builtinsNs mb) (hbb : ∀ y : Str, y ≠ "__name__" → mb y = bootBuiltins y) (hlim : s.heap.NoLimit) (hgen : s.gens = #[])
    (ha : s.heap.get? a = some { cls := .type "list", data := .seq vs.toArray }) (hi : IntsAre vs ns) (hlen : ns.length ≤ sizeLine) (hr : Room k callerA)
    (hF : ∀ base : Heap, K.In base → base.Ns mainGlobals mg → FnG P w K mg base k fa fd [x] F) (hbi : ∀ (s : Shared) (u : Value), BindsTo s fd ⟨[u], []⟩ [(x, u)])
    (hG : ∃ S, F [.rls (ns.map D.int)] [] = .ok (.bl true) S) :
    codeAny (model P w) callerA (.call (.ref fa) ⟨[.ref a], []⟩) (fun r s' => r = .ok (.ret (.bool true)) ∧ OldK s.heap s'.heap ∧ s'.os = s.os ∧ AllBare s'.gens) s := by
  have rv : Vals (ns.map V.int) vs := vals_ints hi
  have reps : ∀ (H : Hp) (l : List Int), Reps K [] H (l.map V.int) (l.map D.int) := fun H l => by
    induction l with
    | nil => exact .nil
    | cons n l ih => exact .cons (.int n) ih
  -- H tracks nothing but, perhaps, the script
  have go : ∀ H : Hp, (∀ b, H b = none ∨ (b = a ∧ ∃ o xs, H b = some (.frz o (.lst xs)))) → SqR K H a (ns.map V.int) → HOk P w H s.heap → (∀ o, K.lookup a = some o → H a = none) →
      codeAny (model P w) callerA (.call (.ref fa) ⟨[.ref a], []⟩) (fun r s' => r = .ok (.ret (.bool true)) ∧ OldK s.heap s'.heap ∧ s'.os = s.os ∧ AllBare s'.gens) s := by
    intro H hO hS hok hK
    have keep : ∀ (b : Addr) (o : Obj), s.heap.get? b = some o → (∀ es ep, o.data = .dict es ep → H b = none) := fun b o e es ep d => by
      rcases hO b with z | ⟨rfl, _⟩
      · exact z
      · rw [ha] at e
        cases e
        cases d
    have nsK : ∀ {b : Addr} {m : Str → Option Value}, s.heap.Ns b m → (hidT s.heap H).Ns b m := fun {b m} n => by
      obtain ⟨o, es, ep, e, d, rest⟩ := n
      exact ⟨o, es, ep, hidT_get e (keep b o e es ep d), d, rest⟩
    have kb : K.In (hidT s.heap H) := fun b o e => hidT_get (KX b o e) (by
      rcases hO b with z | ⟨rfl, _⟩
      · exact z
      · exact hK o e)
    have md : Mod K mg (hidT s.heap H) := by
      obtain ⟨mc, h1, h2⟩ := hlim
      exact ⟨kb, nsK hns, ⟨mb, nsK hbn, hbb⟩, ⟨mc, nsK h1, h2⟩⟩
    have e0 : Env0 P w K mg (hidT s.heap H) callerA [] s H := ⟨rfl, md, fun b o e => of_hidT e, Nat.le_of_eq (hidT_size _ _), trivial, fun b hb => absurd (show b ∈ ([] : List Addr) from hb) (by simp), hok, .of_eq hgen⟩
    obtain ⟨S, eS⟩ := hG
    have pr : prom K F [.ref a] H (fun v _ => v = .bl true) (fun _ _ _ => False) := by
      refine ⟨[.rls (ns.map D.int)], [], [], ⟨rfl, List.nodup_nil, fun n o b e => by simp at e⟩, .cons (.rls hS (reps H ns)) .nil, ?_⟩
      rw [eS]
      intro m2 H2 _ _ v q
      cases q
      rfl
    refine codeAny_mono (hF _ kb (nsK hns) callerA [] s H ⟨[.ref a], []⟩ [.ref a] [.ref a] _ _ hr rfl e0 (hbi s (.ref a)) (.cons rfl .nil) rfl pr) fun res s' h => ?_
    cases res with
    | error e =>
      obtain ⟨_, _, _, _, _, _, _, _, _, _, _, _, z⟩ := h
      exact z.elim
    | ok fl =>
      cases fl with
      | ret u =>
        obtain ⟨v, H', os, bare, un, hok', r', q⟩ := h
        obtain rfl : v = .bl true := q
        cases r'
        refine ⟨rfl, OldK.of_keep fun b o e => ?_, os, bare⟩
        rcases hO b with z | ⟨_, ob, xs, z⟩
        · exact un.keep b o e z (fun y => absurd (show b ∈ ([] : List Addr) from y) (by simp)) (by simp)
        · have z2 := (hok' b _ (un.frzs b ob _ z)).1
          have z1 := (hok b _ z).1
          rw [e] at z1
          cases z1
          exact z2
      | _ => exact False.elim h
  cases hk : K.lookup a with
  | some o =>
    have e := KX a o hk
    rw [ha] at e
    cases e
    exact go (fun _ => none) (fun _ => .inl rfl) (.inr ⟨_, vs.toArray, _, hk, rfl, rfl, rfl, by rw [List.size_toArray, hi.length]; exact hlen, rv⟩) (fun b u z => absurd (show (none : Option HO) = some u from z) (by simp)) fun _ _ => rfl
  | none =>
    refine go (upd (fun _ => none) a (.frz { cls := .type "list", data := .seq vs.toArray } (.lst (ns.map V.int)))) (fun b => ?_) (.inl ⟨_, upd_same⟩) (fun b u z => ?_) fun o e => absurd (hk.symm.trans e) (by simp)
    · by_cases hb : b = a
      · subst hb
        exact .inr ⟨rfl, _, _, upd_same⟩
      · exact .inl (upd_ne hb)
    · by_cases hb : b = a
      · subst hb
        rw [upd_same] at z
        cases z
        exact ⟨ha, by rw [List.length_map]; exact hlen, vs, _, rv, ha⟩
      · rw [upd_ne hb] at z
        cases z
theorem law_walk {l : PySem.W.OpenLaw} {n k : Nat} {q : Program} {loose : List Str} {XP : (Str → Option Value) → Heap → Prop} {YP : World → Heap → Prop} {d : DefRec} {K : Params → PySem.W.Frag} {x : Str}
    (hn : l.most = some n) (hn2 : n ≤ sizeLine) (hdf : d.params.defaults = []) (hr : Room k callerA) (hY : ∀ (w : World) (h : Heap), YP w h → (K w.params).In h)
    (hF : ∀ (w : World) (mg : Str → Option Value) (fa : Addr) (h : Heap), (K w.params).In h → h.Ns mainGlobals mg → mg d.name = some (.ref fa) →
      ∃ (fd : FuncData) (F : List D → M D), (∀ (s : Shared) (u : Value), BindsTo s fd ⟨[u], []⟩ [(x, u)]) ∧ (∀ ns : List Int, ns.length ≤ n → ∃ S, F [.rls (ns.map D.int)] [] = .ok (.bl true) S) ∧
        ∀ base : Heap, (K w.params).In base → base.Ns mainGlobals mg → FnG l.prog w (K w.params) mg base k fa fd [x] F) :
    PySem.W.WalkO q loose XP YP l.row.toRowW d [] (fun f vs => PySem.call f vs) := by
  refine Att.attach_call hn hdf fun w s0 s1 mg mb fa o pm cd doc a vs ns G Y ho hd hcd hmg hobj hints hlen hg => ?_
  obtain ⟨fd, F, hb, hG, hf⟩ := hF w mg fa _ (hY w _ Y) G.T.g hmg
  exact law_go (hY w _ Y) G.T.g G.T.b G.T.builtins G.T.nolimit hg hobj hints (Nat.le_trans hlen hn2) hr hf hb (hG ns hlen)
end Fa
namespace Fa
open PySem PySem.Spec PyProof.Rows L2
/-! ### numbers -/
def i2 (C : Int → Int → Bool) (g : Int → Int → D) : D → D → M D
  | .int i, .int j => if C i j = true then ret (g i j) else fail
  | _, _ => fail
def i2b (g : Int → Int → Bool) : D → D → M D
  | .int i, .int j => ret (.bl (g i j))
  | _, _ => fail
def mulC (i j : Int) : Bool := (decide (-(2 ^ 64) < i) && decide (i < 2 ^ 64)) || (decide (-(2 ^ 64) < j) && decide (j < 2 ^ 64))
def divC (_ j : Int) : Bool := decide (j ≠ 0) && decide (j.natAbs < 1073741824)
def modC (_ j : Int) : Bool := decide (j ≠ 0)
def powC (i j : Int) : Bool := decide (0 ≤ j) && decide ((Builtin.Int.intBits i : Int) * j ≤ 2 ^ 27)
def subD : D → D → M D := i2 (fun _ _ => true) fun i j => .int (i - j)
def mulD : D → D → M D := i2 mulC fun i j => .int (i * j)
def fdivD : D → D → M D := i2 divC fun i j => .int (i.fdiv j)
def modD : D → D → M D := i2 modC fun i j => .int (i.fmod j)
def powD : D → D → M D := i2 powC fun i j => .int (i ^ j.toNat)
section
variable {X : Cx} {K : PySem.W.Frag}
theorem op2_i {C : Int → Int → Prop} {B : Int → Int → Bool} {g : Int → Int → V} {g' : Int → Int → D} (hC : ∀ i j, B i j = true → C i j) (hg : ∀ i j mu H, Rep K mu H (g i j) (g' i j)) : Op2 K (rI C g) (i2 B g') := by
  intro W σ mu H S x y v w Q hS rx ry hp
  cases rx <;> first | exact hp.elim | skip
  cases ry <;> first | exact hp.elim | skip
  rename_i i j
  have hp' : Post K W σ mu H _ ((if B i j = true then ret (g' i j) else fail) S) := hp
  by_cases h : B i j = true
  · rw [if_pos h] at hp'
    exact ⟨i, j, rfl, rfl, hC i j h, hp' mu H Ext.refl hS _ (hg i j mu H)⟩
  · rw [if_neg h] at hp'
    exact hp'.elim
theorem op2_i0 {g : Int → Int → V} {g' : Int → Int → D} (hg : ∀ i j mu H, Rep K mu H (g i j) (g' i j)) : Op2 K (rI0 g) (i2 (fun _ _ => true) g') := by
  intro W σ mu H S x y v w Q hS rx ry hp
  cases rx <;> first | exact hp.elim | skip
  cases ry <;> first | exact hp.elim | skip
  rename_i i j
  exact ⟨i, j, rfl, rfl, hp mu H Ext.refl hS _ (hg i j mu H)⟩
theorem o_sub : Op2 K (rI0 fun i j => .int (i - j)) subD := op2_i0 fun i j _ _ => .int _
theorem o_mul : Op2 K (rI CMul fun i j => .int (i * j)) mulD := op2_i (fun i j h => by
  unfold mulC at h
  simp only [Bool.or_eq_true, Bool.and_eq_true, decide_eq_true_eq] at h
  exact h) fun i j _ _ => .int _
theorem o_fdiv : Op2 K (rI CDivN fun i j => .int (i.fdiv j)) fdivD := op2_i (fun i j h => by
  unfold divC at h
  simp only [Bool.and_eq_true, decide_eq_true_eq] at h
  exact h) fun i j _ _ => .int _
theorem o_mod : Op2 K (rI (fun _ j => j ≠ 0) fun i j => .int (i.fmod j)) modD := op2_i (fun i j h => by
  unfold modC at h
  exact of_decide_eq_true h) fun i j _ _ => .int _
theorem op_powG : OpR X (binaryOp .Pow) (rI (fun i j => powC i j = true) fun i j => .int (i ^ j.toNat)) := opI fun i j _ _ _ _ _ hc q => by
  unfold powC at hc
  simp only [Bool.and_eq_true, decide_eq_true_eq] at hc
  exact pow_int hc.1 hc.2 q
theorem o_pow : Op2 K (rI (fun i j => powC i j = true) fun i j => .int (i ^ j.toNat)) powD := op2_i (fun i j h => h) fun i j _ _ => .int _
def negD : D → M D
  | .int i => ret (.int (-i))
  | _ => fail
theorem o_neg : Op1 K (rU fun i => .int (-i)) negD := by
  intro W σ mu H S x v Q hS rx hp
  cases rx <;> first | exact hp.elim | skip
  exact ⟨_, rfl, hp mu H Ext.refl hS _ (.int _)⟩
/-! ### + -/
def addD : D → D → M D
  | .int i, .int j => ret (.int (i + j))
  | .str a, .str b => if a.length + b.length ≤ sizeLine then ret (.str (a ++ b)) else fail
  | .tup a, .tup b => if a.length + b.length ≤ sizeLine then ret (.tup (a ++ b)) else fail
  | .loc a, .loc b => fun S => match S[a]?, S[b]? with
    | some (.lst xs), some (.lst ys) => if xs.length + ys.length ≤ sizeLine then .ok (.loc S.length) (S ++ [.lst (xs ++ ys)]) else .bad
    | _, _ => .bad
  | _, _ => fail
def rAddAll (K : PySem.W.Frag) : R2 := fun x y H Q => rI0 (fun i j => .int (i + j)) x y H Q ∨ (∃ i j, x = .str i ∧ y = .str j ∧ i.length + j.length ≤ sizeLine ∧ Q (.str (i ++ j)) H) ∨ rCatF K x y H Q ∨ rCat x y H Q
theorem op_addAll : OpR X (binaryOp .Add) (rAddAll X.K) := op_add.or (op_add_str.or (op_catF.or op_cat))
theorem o_add : Op2 K (rAddAll K) addD := by
  intro W σ mu H S x y v w Q hS rx ry hp
  cases rx with
  | int i =>
    cases ry <;> first | exact hp.elim | skip
    exact .inl ⟨_, _, rfl, rfl, hp mu H Ext.refl hS _ (.int _)⟩
  | str a =>
    cases ry <;> first | exact hp.elim | skip
    rename_i b
    have hp' : Post K W σ mu H _ ((if a.length + b.length ≤ sizeLine then ret (D.str (a ++ b)) else fail) S) := hp
    by_cases h : a.length + b.length ≤ sizeLine
    · rw [if_pos h] at hp'
      exact .inr (.inl ⟨a, b, rfl, rfl, h, hp' mu H Ext.refl hS _ (.str _)⟩)
    · rw [if_neg h] at hp'
      exact hp'.elim
  | tup hd ha r1 =>
    cases ry <;> first | exact hp.elim | skip
    rename_i a xs ds oa b ys es ob hd2 hb r2
    have hp' : Post K W σ mu H _ ((if ds.length + es.length ≤ sizeLine then ret (D.tup (ds ++ es)) else fail) S) := hp
    by_cases h : ds.length + es.length ≤ sizeLine
    · rw [if_pos h] at hp'
      refine .inr (.inr (.inl ⟨a, b, xs, ys, rfl, rfl, sqT_t ha, sqT_t hb, by rw [r1.length, r2.length]; exact h, ?_⟩))
      refine ⟨fun hn => ?_, fun h1 hn => ?_, fun h1 h2 p o hp0 hd0 => ?_⟩
      · subst hn
        cases r1
        exact hp' mu H Ext.refl hS _ (.tup hd2 hb r2)
      · subst hn
        cases r2
        rw [List.append_nil] at hp'
        exact hp' mu H Ext.refl hS _ (.tup hd ha r1)
      · exact hp' mu _ (ext_tup hp0) (hS.tup hp0) _ (.tup hd0 upd_same ((r1.append r2).mono (ext_tup hp0)))
    · rw [if_neg h] at hp'
      exact hp'.elim
  | loc ha =>
    cases ry <;> first | exact hp.elim | skip
    rename_i a n b m hb
    obtain ⟨o1, e1, q1⟩ := hS.obj ha
    obtain ⟨o2, e2, q2⟩ := hS.obj hb
    have hp' : Post K W σ mu H _ (match S[n]?, S[m]? with
      | some (.lst xs), some (.lst ys) => if xs.length + ys.length ≤ sizeLine then Res.ok (D.loc S.length) (S ++ [.lst (xs ++ ys)]) else .bad
      | _, _ => .bad) := hp
    rw [e1, e2] at hp'
    cases o1 with
    | lst xs =>
      cases o2 with
      | lst ys =>
        obtain ⟨vs, h1, r1⟩ := q1
        obtain ⟨ws, h2, r2⟩ := q2
        simp only at hp'
        by_cases h : xs.length + ys.length ≤ sizeLine
        · rw [if_pos h] at hp'
          refine .inr (.inr (.inr ⟨a, b, vs, ws, rfl, rfl, h1, h2, by rw [r1.length, r2.length]; exact h, fun p hp0 => ?_⟩))
          refine hp' _ _ (ext_new hp0) (hS.new (o := .lst (xs ++ ys)) hp0 ⟨_, upd_same, (r1.append r2).mono (ext_new hp0)⟩) _ (.loc ?_)
          rw [hS.len]
          simp
        · rw [if_neg h] at hp'
          exact hp'.elim
      | dct _ => exact hp'.elim
      | dcT _ => exact hp'.elim
      | tab _ _ => exact hp'.elim
      | ins _ _ => exact hp'.elim
    | dct _ => exact hp'.elim
    | dcT _ => exact hp'.elim
    | tab _ _ => exact hp'.elim
    | ins _ _ => exact hp'.elim
  | _ => exact hp.elim
/-! ### data as a whole: == and repr -/
def snapL (f : D → Option PyData) : List D → Option (List PyData)
  | [] => some []
  | d :: ds => match f d, snapL f ds with
    | some a, some as => some (a :: as)
    | _, _ => none
def snap (S : Sto) : Nat → D → Option PyData
  | 0, _ => none
  | n + 1, d => match d with
    | .non => some .none
    | .bl b => some (.bool b)
    | .int i => some (.int i)
    | .str x => some (.str x)
    | .tup ds => (snapL (snap S n) ds).map .tuple
    | .ktp ds => (snapL (snap S n) ds).map .tuple
    | .rls ds => (snapL (snap S n) ds).map .list
    | .loc k => match S[k]? with
      | some (.lst ds) => (snapL (snap S n) ds).map .list
      | _ => none
    | _ => none
theorem snapL_dp {mu : List Addr} {H : Hp} {f : D → Option PyData} (hf : ∀ d v p, f d = some p → Rep K mu H v d → Dp K H v p) : ∀ {ds : List D} {vs : List V} {ps : List PyData}, snapL f ds = some ps → Reps K mu H vs ds → DpAll K H vs ps
  | _, _, ps, e, .nil => by
    cases e
    exact .nil
  | d :: ds, _, ps, e, .cons r t => by
    unfold snapL at e
    cases e1 : f d with
    | none => rw [e1] at e; cases e
    | some a =>
      cases e2 : snapL f ds with
      | none => rw [e1, e2] at e; cases e
      | some as =>
        rw [e1, e2] at e
        cases e
        exact .cons (hf _ _ _ e1 r) (snapL_dp hf e2 t)
theorem map_some {α β : Type} {o : Option α} {f : α → β} {b : β} (h : o.map f = some b) : ∃ a, o = some a ∧ f a = b := by
  cases o with
  | none => cases h
  | some a => exact ⟨a, rfl, Option.some.inj h⟩
theorem snap_dp {mu : List Addr} {H : Hp} {S : Sto} (hS : HRep K mu H S) : ∀ (n : Nat) (d : D) (v : V) (p : PyData), snap S n d = some p → Rep K mu H v d → Dp K H v p
  | 0, _, _, _, e, _ => by cases e
  | n + 1, d, v, p, e, r => by
    unfold snap at e
    cases r with
    | non => cases e; exact .non
    | bl b => cases e; exact .bl b
    | int b => cases e; exact .int b
    | str b => cases e; exact .str b
    | ty _ => cases e
    | adr _ => cases e
    | exn _ _ _ _ _ _ _ => cases e
    | ttp _ _ => cases e
    | tup _ h r =>
      obtain ⟨ps, e1, e2⟩ := map_some e
      subst e2
      exact .tup (sqT_t h) (snapL_dp (snap_dp hS n) e1 r)
    | ktp h r =>
      obtain ⟨ps, e1, e2⟩ := map_some e
      subst e2
      exact .tup (sqT_k h) (snapL_dp (snap_dp hS n) e1 r)
    | rls h r =>
      obtain ⟨ps, e1, e2⟩ := map_some e
      subst e2
      exact .lst h.sqL (snapL_dp (snap_dp hS n) e1 r)
    | loc h =>
      obtain ⟨o, ho, q⟩ := hS.obj h
      simp only [ho] at e
      cases o with
      | lst ds =>
        obtain ⟨vs, h1, r1⟩ := q
        obtain ⟨ps, e1, e2⟩ := map_some e
        subst e2
        exact .lst (.inl (.inl h1)) (snapL_dp (snap_dp hS n) e1 r1)
      | dct _ => cases e
      | dcT _ => cases e
      | tab _ _ => cases e
      | ins _ _ => cases e
def eqS (neg : Bool) : D → D → M D := fun x y S => match snap S 40 x, snap S 40 y with
  | some a, some b => if (SeqAt.shaped a && SeqAt.shaped b) = true then .ok (.bl (if neg then !(PyData.eqv a b) else PyData.eqv a b)) S else .bad
  | _, _ => .bad
def eqB (neg : Bool) : D → D → M D
  | .str a, .str b => ret (.bl (if neg then !decide (a = b) else decide (a = b)))
  | .int a, .int b => ret (.bl (if neg then !decide (a = b) else decide (a = b)))
  | .bl a, .bl b => ret (.bl (if neg then !decide (a = b) else decide (a = b)))
  | x, y => eqS neg x y
theorem eq_some {W : WX} {σ : L2.St} {mu : List Addr} {H : Hp} {S : Sto} {x y : D} {v w : V} {Q : VK} {neg : Bool} (hS : HRep K mu H S) (rx : Rep K mu H v x) (ry : Rep K mu H w y) (hp : Post K W σ mu H (fun d _ mu' H' => ∀ u, Rep K mu' H' u d → Q u H') (eqS neg x y S)) :
    ∃ d e, Dp K H v d ∧ Dp K H w e ∧ SeqAt.shaped d = true ∧ SeqAt.shaped e = true ∧ Q (.bl (if neg then !(PyData.eqv d e) else PyData.eqv d e)) H := by
  unfold eqS at hp
  cases e1 : snap S 40 x with
  | none => rw [e1] at hp; exact hp.elim
  | some a =>
    cases e2 : snap S 40 y with
    | none => rw [e1, e2] at hp; exact hp.elim
    | some b =>
      simp only [e1, e2] at hp
      by_cases h : (SeqAt.shaped a && SeqAt.shaped b) = true
      · rw [if_pos h] at hp
        rw [Bool.and_eq_true] at h
        exact ⟨a, b, snap_dp hS _ _ _ _ e1 rx, snap_dp hS _ _ _ _ e2 ry, h.1, h.2, hp mu H Ext.refl hS _ (.bl _)⟩
      · rw [if_neg h] at hp
        exact hp.elim
def rEqA (K : PySem.W.Frag) : R2 := fun x y H Q => rEq x y H Q ∨ rEqD K x y H Q
def rNeA (K : PySem.W.Frag) : R2 := fun x y H Q => rNe x y H Q ∨ rNeD K x y H Q
theorem op_eqA (hu : X.A.units + 64 < cLine) : OpR X (compareOp .Eq) (rEqA X.K) := op_eq.or (op_eqD hu)
theorem op_neA (hu : X.A.units + 64 < cLine) : OpR X (compareOp .NotEq) (rNeA X.K) := op_ne.or (op_neD hu)
theorem dec_s (a b : Str) : decide (V.str a = V.str b) = decide (a = b) := by
  by_cases h : a = b
  · rw [h]; simp
  · rw [decide_eq_false h, decide_eq_false fun z => h (V.str.inj z)]
theorem dec_i (a b : Int) : decide (V.int a = V.int b) = decide (a = b) := by
  by_cases h : a = b
  · rw [h]; simp
  · rw [decide_eq_false h, decide_eq_false fun z => h (V.int.inj z)]
theorem dec_b (a b : Bool) : decide (V.bl a = V.bl b) = decide (a = b) := by
  by_cases h : a = b
  · rw [h]; simp
  · rw [decide_eq_false h, decide_eq_false fun z => h (V.bl.inj z)]
theorem o_eq : Op2 K (rEqA K) (eqB false) := fun W σ mu H S x y v w Q hS rx ry hp => by
  cases x <;> cases y <;> first
    | exact .inr (eq_some (neg := false) hS rx ry hp)
    | (cases rx; cases ry; exact .inl ⟨rfl, by rw [dec_s]; exact hp mu H Ext.refl hS _ (.bl _)⟩)
    | (cases rx; cases ry; exact .inl ⟨rfl, by rw [dec_i]; exact hp mu H Ext.refl hS _ (.bl _)⟩)
    | (cases rx; cases ry; exact .inl ⟨rfl, by rw [dec_b]; exact hp mu H Ext.refl hS _ (.bl _)⟩)
theorem o_ne : Op2 K (rNeA K) (eqB true) := fun W σ mu H S x y v w Q hS rx ry hp => by
  cases x <;> cases y <;> first
    | exact .inr (eq_some (neg := true) hS rx ry hp)
    | (cases rx; cases ry; exact .inl ⟨rfl, by rw [dec_s]; exact hp mu H Ext.refl hS _ (.bl _)⟩)
    | (cases rx; cases ry; exact .inl ⟨rfl, by rw [dec_i]; exact hp mu H Ext.refl hS _ (.bl _)⟩)
    | (cases rx; cases ry; exact .inl ⟨rfl, by rw [dec_b]; exact hp mu H Ext.refl hS _ (.bl _)⟩)
/-! ### order -/
def toI : List D → Option (List Int)
  | [] => some []
  | .int i :: ds => (toI ds).map (i :: ·)
  | _ :: _ => none
/-- from the left, the first that differs; then the lengths -/
def lexB (rel : Int → Int → Bool) (z : Nat → Nat → Bool) : List Int → List Int → Bool
  | x :: xs, y :: ys => if x = y then lexB rel z xs ys else rel x y
  | [], ys => z 0 ys.length
  | xs, [] => z xs.length 0
def ordD (rel : Int → Int → Bool) (z : Nat → Nat → Bool) : D → D → M D
  | .int i, .int j => ret (.bl (rel i j))
  | .tup a, .tup b => match toI a, toI b with
    | some xs, some ys => ret (.bl (lexB rel z xs ys))
    | _, _ => fail
  | _, _ => fail
theorem toI_reps {mu : List Addr} {H : Hp} : ∀ {ds : List D} {vs : List V} {ns : List Int}, toI ds = some ns → Reps K mu H vs ds → vs = ns.map V.int := by
  intro ds
  induction ds with
  | nil =>
    intro vs ns e r
    cases r
    cases e
    rfl
  | cons d ds ih =>
    intro vs ns e r
    cases r with
    | cons h t =>
      cases d with
      | int i =>
        cases h
        obtain ⟨ps, e1, e2⟩ := map_some e
        subst e2
        rw [ih e1 t]
        rfl
      | _ => cases e
theorem lexAt_shift (e r : Nat → Bool) (z : Bool) : ∀ (k i : Nat), Ob.lexAt (fun j => e (j + 1)) (fun j => r (j + 1)) z i k = Ob.lexAt e r z (i + 1) k
  | 0, _ => rfl
  | k + 1, i => by
    rw [Ob.lexAt_succ, Ob.lexAt_succ, lexAt_shift e r z k (i + 1)]
theorem lexAt_B (rel : Int → Int → Bool) (z : Nat → Nat → Bool) (hz : ∀ a b, z (a + 1) (b + 1) = z a b) : ∀ ns ms : List Int, Ob.lexAt (fun j => decide (ns.getD j 0 = ms.getD j 0)) (fun j => rel (ns.getD j 0) (ms.getD j 0)) (z ns.length ms.length) 0 (min ns.length ms.length) = lexB rel z ns ms
  | [], ys => by
    rw [List.length_nil, Nat.zero_min]
    rfl
  | x :: xs, [] => by
    rw [List.length_nil, Nat.min_zero]
    rfl
  | x :: xs, y :: ys => by
    rw [List.length_cons, List.length_cons, Nat.succ_min_succ, Ob.lexAt_succ, hz]
    unfold lexB
    rw [← lexAt_B rel z hz xs ys]
    show (if decide (x = y) = true then Ob.lexAt _ _ _ (0 + 1) _ else rel x y) = _
    rw [← lexAt_shift]
    by_cases h : x = y
    · rw [if_pos h, if_pos (decide_eq_true h)]
      rfl
    · rw [if_neg h, if_neg (by rw [decide_eq_false h]; exact Bool.false_ne_true)]
def rOrd (K : PySem.W.Frag) (rel : Int → Int → Bool) (z : Nat → Nat → Bool) : R2 := fun x y H Q => (∃ i j, x = .int i ∧ y = .int j ∧ Q (.bl (rel i j)) H) ∨ ∃ a b ns ms, x = .ref a ∧ y = .ref b ∧ SqT K H a (ns.map V.int) ∧ SqT K H b (ms.map V.int) ∧ Q (.bl (lexB rel z ns ms)) H
theorem op_ord {op : CmpOp} {rel : Int → Int → Bool} {z : Nat → Nat → Bool} (hu : X.A.units < cLine) (hz : ∀ a b, z (a + 1) (b + 1) = z a b)
    (hc : ∀ v u, compareOp op v u = richCompare op v u) (hi : ∀ (A : Around) (s : Shared) (a b : Int) (t u : Tok), Ob.RcOp op A s (.int a t) (.int b u) (rel a b))
    (ht : ∀ {A : Around} {s : Shared} {l b : Addr} {items items2 : Array Value} {e r : Nat → Bool}, s.heap.IsTuple l items → s.heap.IsTuple b items2 → A.units < cLine → (∀ j (h1 : j < items.size) (h2 : j < items2.size), SeqAt.EqAt A.in1 s items[j] items2[j] (e j)) →
      (∀ j (h1 : j < items.size) (h2 : j < items2.size), e j = false → Ob.RcOp op A.in1 s items[j] items2[j] (r j)) → Ob.RcOp op A s (.ref l) (.ref b) (Ob.lexAt e r (z items.size items2.size) 0 (min items.size items2.size))) :
    OpR X (compareOp op) (rOrd X.K rel z) := by
  intro pins s σ H x y v u Q I rx ry h
  rw [hc]
  rcases h with ⟨i, j, rfl, rfl, q⟩ | ⟨a, b, ns, ms, rfl, rfl, ha, hb, q⟩
  · obtain ⟨t, rfl⟩ := rx
    obtain ⟨t', rfl⟩ := ry
    exact hi _ _ i j t t' _ _ _ _ ⟨.bl _, H, I, rfl, q⟩
  · cases rx
    cases ry
    obtain ⟨its, r1, p1, _⟩ := I.tuple ha
    obtain ⟨its2, r2, p2, _⟩ := I.tuple hb
    have i1 : IntsAre its ns := Vals.ints r1
    have i2 : IntsAre its2 ms := Vals.ints r2
    have at1 : ∀ j (h1 : j < its.toArray.size), ∃ t, its.toArray[j] = .int (ns.getD j 0) t := fun j h1 => IntsAre.int_at i1 _ _ (by simp at h1; simp [h1])
    have at2 : ∀ j (h1 : j < its2.toArray.size), ∃ t, its2.toArray[j] = .int (ms.getD j 0) t := fun j h1 => IntsAre.int_at i2 _ _ (by simp at h1; simp [h1])
    have R := ht (A := X.A) (s := s) (e := fun j => decide (ns.getD j 0 = ms.getD j 0)) (r := fun j => rel (ns.getD j 0) (ms.getD j 0)) p1 p2 hu (fun j h1 h2 => by
      obtain ⟨t, et⟩ := at1 j h1
      obtain ⟨t', et'⟩ := at2 j h2
      rw [et, et', show decide (ns.getD j 0 = ms.getD j 0) = (ns.getD j 0 == ms.getD j 0) from (Bool.beq_eq_decide_eq _ _).symm]
      exact SeqAt.EqAt.int_int _ _ _ _) (fun j h1 h2 _ => by
      obtain ⟨t, et⟩ := at1 j h1
      obtain ⟨t', et'⟩ := at2 j h2
      rw [et, et']
      exact hi _ _ _ _ _ _)
    rw [show its.toArray.size = ns.length by rw [List.size_toArray]; exact i1.length, show its2.toArray.size = ms.length by rw [List.size_toArray]; exact i2.length, lexAt_B rel z hz] at R
    exact R X.prog X.w X.xe (EP X pins σ Q) ⟨.bl _, H, I, rfl, q⟩
theorem o_ord {rel : Int → Int → Bool} {z : Nat → Nat → Bool} : Op2 K (rOrd K rel z) (ordD rel z) := by
  intro W σ mu H S x y v w Q hS rx ry hp
  cases rx with
  | int i =>
    cases ry <;> first | exact hp.elim | skip
    exact .inl ⟨_, _, rfl, rfl, hp mu H Ext.refl hS _ (.bl _)⟩
  | tup hd ha r1 =>
    cases ry <;> first | exact hp.elim | skip
    rename_i a xs ds oa b ys es ob hd2 hb r2
    have hp' : Post K W σ mu H _ ((match toI ds, toI es with
      | some xs, some ys => ret (D.bl (lexB rel z xs ys))
      | _, _ => fail) S) := hp
    cases e1 : toI ds with
    | none => rw [e1] at hp'; exact hp'.elim
    | some ns =>
      cases e2 : toI es with
      | none => rw [e1, e2] at hp'; exact hp'.elim
      | some ms =>
        simp only [e1, e2] at hp'
        exact .inr ⟨a, b, ns, ms, rfl, rfl, by rw [← toI_reps e1 r1]; exact sqT_t ha, by rw [← toI_reps e2 r2]; exact sqT_t hb, hp' mu H Ext.refl hS _ (.bl _)⟩
  | _ => exact hp.elim
def ltI (a b : Int) : Bool := decide (a < b)
def leI (a b : Int) : Bool := decide (a ≤ b)
def gtI (a b : Int) : Bool := decide (b < a)
def geI (a b : Int) : Bool := decide (b ≤ a)
def ltD : D → D → M D := ordD ltI fun a b => decide (a < b)
def leD : D → D → M D := ordD leI fun a b => decide (a ≤ b)
def gtD : D → D → M D := ordD gtI fun a b => decide (a > b)
def geD : D → D → M D := ordD geI fun a b => decide (a ≥ b)
theorem op_ltA (hu : X.A.units < cLine) : OpR X (compareOp .Lt) (rOrd X.K ltI fun a b => decide (a < b)) := op_ord hu (fun a b => by simp) (fun _ _ => rfl) (fun _ _ _ _ _ _ => Ob.RcOp.lt_int _ _ _ _) fun h1 h2 h3 h4 h5 => Ob.RcOp.tuples_lt h1 h2 h3 h4 h5
theorem op_leA (hu : X.A.units < cLine) : OpR X (compareOp .LtE) (rOrd X.K leI fun a b => decide (a ≤ b)) := op_ord hu (fun a b => by simp) (fun _ _ => rfl) (fun _ _ _ _ _ _ => Ob.RcOp.le_int _ _ _ _) fun h1 h2 h3 h4 h5 => Ob.RcOp.tuples_le h1 h2 h3 h4 h5
theorem op_gtA (hu : X.A.units < cLine) : OpR X (compareOp .Gt) (rOrd X.K gtI fun a b => decide (a > b)) := op_ord hu (fun a b => by simp) (fun _ _ => rfl) (fun _ _ _ _ _ _ => Ob.RcOp.gt_int _ _ _ _) fun h1 h2 h3 h4 h5 => Ob.RcOp.tuples_gt h1 h2 h3 h4 h5
theorem op_geA (hu : X.A.units < cLine) : OpR X (compareOp .GtE) (rOrd X.K geI fun a b => decide (a ≥ b)) := op_ord hu (fun a b => by simp) (fun _ _ => rfl) (fun _ _ _ _ _ _ => Ob.RcOp.ge_int _ _ _ _) fun h1 h2 h3 h4 h5 => Ob.RcOp.tuples_ge h1 h2 h3 h4 h5
/-! ### is None -/
def isN (neg : Bool) : D → D → M D := fun x y => match y with
  | .non => ret (.bl (match x with
    | .non => !neg
    | _ => neg))
  | _ => fail
theorem o_isN : Op2 K (fun x y H Q => y = .non ∧ Q (.bl (decide (x = .non))) H) (isN false) := by
  intro W σ mu H S x y v w Q hS rx ry hp
  cases ry <;> first | exact hp.elim | skip
  refine ⟨rfl, ?_⟩
  cases rx <;> exact hp mu H Ext.refl hS _ (.bl _)
theorem o_notN : Op2 K (fun x y H Q => y = .non ∧ Q (.bl (!decide (x = .non))) H) (isN true) := by
  intro W σ mu H S x y v w Q hS rx ry hp
  cases ry <;> first | exact hp.elim | skip
  refine ⟨rfl, ?_⟩
  cases rx <;> exact hp mu H Ext.refl hS _ (.bl _)
end
end Fa
namespace Fa
open PySem PySem.Spec PyProof.Rows L2
section
variable {X : Cx} {K : PySem.W.Frag}
/-! ### places -/
def ixD : D → D → M D
  | .tup ds, .int i => match atI ds i with
    | some d => ret d
    | none => fail
  | .ktp ds, .int i => match atI ds i with
    | some d => ret d
    | none => fail
  | .rls ds, .int i => match atI ds i with
    | some d => ret d
    | none => fail
  | .loc n, .int i => fun S => match S[n]? with
    | some (.lst ds) => match atI ds i with
      | some d => .ok d S
      | none => .bad
    | _ => .bad
  | .str z, .int i => match atI z.cps.toList i with
    | some c => if z.length ≤ sizeLine then ret (.str ⟨#[c]⟩) else fail
    | none => fail
  | _, _ => fail
theorem Reps.atI {mu : List Addr} {H : Hp} {vs : List V} {ds : List D} {i : Int} {d : D} (h : Reps K mu H vs ds) (e : L2.atI ds i = some d) : ∃ v, L2.atI vs i = some v ∧ Rep K mu H v d := by
  unfold L2.atI at e ⊢
  rw [h.length]
  cases e1 : ixN ds.length i with
  | none => rw [e1] at e; cases e
  | some j => rw [e1] at e; exact h.get e
theorem o_ix : Op2 K (rIx K) ixD := by
  intro W σ mu H S x y v w Q hS rx ry hp
  cases rx with
  | tup hd hq hr =>
    cases ry <;> first | exact hp.elim | skip
    rename_i a vs ds o i
    have hp' : Post K W σ mu H _ ((match atI ds i with
      | some d => ret d
      | none => fail) S) := hp
    cases e : atI ds i with
    | none => rw [e] at hp'; exact hp'.elim
    | some d =>
      rw [e] at hp'
      obtain ⟨u, e2, ru⟩ := hr.atI e
      exact .inr (.inl ⟨a, vs, i, u, rfl, rfl, sqT_t hq, e2, hp' mu H Ext.refl hS u ru⟩)
  | ktp hq hr =>
    cases ry <;> first | exact hp.elim | skip
    rename_i a vs ds i
    have hp' : Post K W σ mu H _ ((match atI ds i with
      | some d => ret d
      | none => fail) S) := hp
    cases e : atI ds i with
    | none => rw [e] at hp'; exact hp'.elim
    | some d =>
      rw [e] at hp'
      obtain ⟨u, e2, ru⟩ := hr.atI e
      exact .inr (.inl ⟨a, vs, i, u, rfl, rfl, sqT_k hq, e2, hp' mu H Ext.refl hS u ru⟩)
  | rls hq hr =>
    cases ry <;> first | exact hp.elim | skip
    rename_i a vs ds i
    have hp' : Post K W σ mu H _ ((match atI ds i with
      | some d => ret d
      | none => fail) S) := hp
    cases e : atI ds i with
    | none => rw [e] at hp'; exact hp'.elim
    | some d =>
      rw [e] at hp'
      obtain ⟨u, e2, ru⟩ := hr.atI e
      exact .inl ⟨a, vs, i, u, rfl, rfl, hq.sqL, e2, hp' mu H Ext.refl hS u ru⟩
  | loc hn =>
    cases ry <;> first | exact hp.elim | skip
    rename_i a n i
    obtain ⟨o, ho, q⟩ := hS.obj hn
    have hp' : Post K W σ mu H _ (match S[n]? with
      | some (.lst ds) => match atI ds i with
        | some d => Res.ok d S
        | none => .bad
      | _ => .bad) := hp
    rw [ho] at hp'
    cases o with
    | lst ds =>
      obtain ⟨vs, h1, hr⟩ := q
      simp only at hp'
      cases e : atI ds i with
      | none => rw [e] at hp'; exact hp'.elim
      | some d =>
        rw [e] at hp'
        obtain ⟨u, e2, ru⟩ := hr.atI e
        exact .inl ⟨a, vs, i, u, rfl, rfl, .inl (.inl h1), e2, hp' mu H Ext.refl hS u ru⟩
    | dct _ => exact hp'.elim
    | dcT _ => exact hp'.elim
    | tab _ _ => exact hp'.elim
    | ins _ _ => exact hp'.elim
  | str z =>
    cases ry <;> first | exact hp.elim | skip
    rename_i i
    have hp' : Post K W σ mu H _ ((match atI z.cps.toList i with
      | some c => if z.length ≤ sizeLine then ret (D.str ⟨#[c]⟩) else fail
      | none => fail) S) := hp
    cases e : atI z.cps.toList i with
    | none => rw [e] at hp'; exact hp'.elim
    | some c =>
      rw [e] at hp'
      simp only at hp'
      by_cases h : z.length ≤ sizeLine
      · rw [if_pos h] at hp'
        exact .inr (.inr ⟨z, i, c, rfl, rfl, h, e, hp' mu H Ext.refl hS _ (.str _)⟩)
      · rw [if_neg h] at hp'
        exact hp'.elim
  | _ => exact hp.elim
/-! o[i] = v -/
def setD : D → D → D → M Unit
  | .loc n, .int i, d => fun S => match S[n]? with
    | some (.lst ds) => match ixN ds.length i with
      | some j => .ok () (S.set n (.lst (ds.set j d)))
      | none => .bad
    | _ => .bad
  | _, _, _ => fail
def gSubD (mo mi : Env → M D) : Tg := fun d r => bnd (mo r) fun o => bnd (mi r) fun i => bnd (setD o i d) fun _ => ret r
theorem sg_sub {W : WX} {o i : Expr} {mo mi : Env → M D} {pos : Pos} (ho : SE X W o mo) (hi : SE X W i mi)
    (ha : ∀ v, assign (.Subscript o i pos) X.env v = (do
      let ov ← holding [v] (eval o X.env)
      let iv ← holding [v, ov] (eval i X.env)
      standAt pos
      holding [v, ov, iv] (setItem ov iv v)
      release [v, ov, iv] []) := by intro _; rfl) : SG X W (.Subscript o i pos) [] (gSubD mo mi) := ⟨fun p s σ H v u Q I rv q => (pg_sub ho hi set_list ha).run p s σ H v u Q I rv (by
  obtain ⟨r, mu, S, d, hS, he, hr, hp⟩ := q
  refine ⟨r, mu, S, hS, he, hp.bnd.imp fun x S1 mu1 H1 ex hS1 q1 ov rov => ?_⟩
  refine ⟨r, mu1, S1, hS1, he.mono ex, q1.bnd.imp fun y S2 mu2 H2 ex2 hS2 q2 iv riv => ?_⟩
  have rov2 := rov.mono ex2
  cases rov2 <;> first | exact q2.elim | skip
  cases riv <;> first | exact q2.elim | skip
  rename_i a n hn k
  obtain ⟨ob, hob, qb⟩ := hS2.obj hn
  have q3 : Post X.K W σ mu2 H2 _ (bnd (fun S => match S[n]? with
    | some (.lst ds) => match ixN ds.length k with
      | some j => Res.ok () (S.set n (.lst (ds.set j d)))
      | none => .bad
    | _ => .bad) (fun _ => ret r) S2) := q2
  unfold bnd at q3
  simp only [hob] at q3
  cases ob with
  | lst ds =>
    obtain ⟨vs, h1, hrs⟩ := qb
    simp only at q3
    cases e : ixN ds.length k with
    | none => rw [e] at q3; exact q3.elim
    | some j =>
      rw [e] at q3
      have ext : Ext mu2 H2 mu2 (upd H2 a (.lst (vs.set j v))) := ext_put hn h1 trivial
      refine ⟨a, vs, k, j, rfl, rfl, h1, by rw [hrs.length]; exact e, ?_⟩
      exact q3 mu2 _ ext (hS2.put (u' := .lst vs) hn ext ⟨_, upd_same, (hrs.set ((hr.mono ex).mono ex2) j).mono ext⟩) σ ((((he.mono ex).mono ex2).mono ext)) rfl
  | dct _ => exact q3.elim
  | dcT _ => exact q3.elim
  | tab _ _ => exact q3.elim
  | ins _ _ => exact q3.elim)⟩
/-! ### built-in functions -/
def absD : List D → M D
  | [.int i] => ret (.int (if i < 0 then -i else i))
  | _ => fail
def maxD : List D → M D
  | [.int i, .int j] => ret (.int (if j > i then j else i))
  | _ => fail
def minD : List D → M D
  | [.int i, .int j] => ret (.int (if j < i then j else i))
  | _ => fail
def intD : List D → M D
  | [.int i] => ret (.int i)
  | [.bl k] => ret (.int (if k then 1 else 0))
  | _ => fail
def lenOf (S : Sto) : D → Option Nat
  | .str z => if z.length ≤ sizeLine then some z.length else none
  | .tup ds => some ds.length
  | .rls ds => some ds.length
  | .loc n => match S[n]? with
    | some (.lst ds) => some ds.length
    | some (.dct ds) => some ds.length
    | some (.dcT ds) => some ds.length
    | _ => none
  | _ => none
def lenD : List D → M D
  | [x] => fun S => match lenOf S x with
    | some n => .ok (.int n) S
    | none => .bad
  | _ => fail
theorem one_of {mu : List Addr} {H : Hp} {vs : List V} {x : D} (h : Reps K mu H vs [x]) : ∃ v, vs = [v] ∧ Rep K mu H v x := by
  cases h with
  | cons r t => cases t; exact ⟨_, rfl, r⟩
theorem two_of {mu : List Addr} {H : Hp} {vs : List V} {x y : D} (h : Reps K mu H vs [x, y]) : ∃ v w, vs = [v, w] ∧ Rep K mu H v x ∧ Rep K mu H w y := by
  cases h with
  | cons r t =>
    obtain ⟨w, rfl, rw⟩ := one_of t
    exact ⟨_, w, rfl, r, rw⟩
theorem o_abs : OpN K (fun xs H Q => ∃ i, xs = [.int i] ∧ Q (.int (if i < 0 then -i else i)) H) absD := by
  intro W σ mu H S xs vs Q hS hr hp
  unfold absD at hp
  split at hp
  · obtain ⟨v, rfl, rv⟩ := one_of hr
    cases rv
    exact ⟨_, rfl, hp mu H Ext.refl hS _ (.int _)⟩
  · exact hp.elim
theorem o_max : OpN K (fun xs H Q => ∃ i j, xs = [.int i, .int j] ∧ Q (.int (if j > i then j else i)) H) maxD := by
  intro W σ mu H S xs vs Q hS hr hp
  unfold maxD at hp
  split at hp
  · obtain ⟨v, w, rfl, rv, rw⟩ := two_of hr
    cases rv
    cases rw
    exact ⟨_, _, rfl, hp mu H Ext.refl hS _ (.int _)⟩
  · exact hp.elim
theorem o_min : OpN K (fun xs H Q => ∃ i j, xs = [.int i, .int j] ∧ Q (.int (if j < i then j else i)) H) minD := by
  intro W σ mu H S xs vs Q hS hr hp
  unfold minD at hp
  split at hp
  · obtain ⟨v, w, rfl, rv, rw⟩ := two_of hr
    cases rv
    cases rw
    exact ⟨_, _, rfl, hp mu H Ext.refl hS _ (.int _)⟩
  · exact hp.elim
theorem o_int : OpN K (fun xs H Q => (∃ i, xs = [.int i] ∧ Q (.int i) H) ∨ ∃ k, xs = [.bl k] ∧ Q (.int (if k then 1 else 0)) H) intD := by
  intro W σ mu H S xs vs Q hS hr hp
  unfold intD at hp
  split at hp
  · obtain ⟨v, rfl, rv⟩ := one_of hr
    cases rv
    exact .inl ⟨_, rfl, hp mu H Ext.refl hS _ (.int _)⟩
  · obtain ⟨v, rfl, rv⟩ := one_of hr
    cases rv
    exact .inr ⟨_, rfl, hp mu H Ext.refl hS _ (.int _)⟩
  · exact hp.elim
def rLenAll (K : PySem.W.Frag) : List V → Hp → VK → Prop := fun xs H Q => (∃ p ys, xs = [.ref p] ∧ (SqL K H p ys ∨ SqT K H p ys) ∧ Q (.int ys.length) H) ∨ (∃ z, xs = [.str z] ∧ z.length ≤ sizeLine ∧ Q (.int z.length) H) ∨ (∃ p kvs, xs = [.ref p] ∧ H p = some (.dK kvs) ∧ Q (.int kvs.length) H) ∨ rLenT xs H Q
theorem call_lenK : CallR X (.builtin "len") (fun xs H Q => ∃ p kvs, xs = [.ref p] ∧ H p = some (.dK kvs) ∧ Q (.int kvs.length) H) := by
  intro pins s σ H xs us Q I r h
  obtain ⟨p, kvs, rfl, hp, q⟩ := h
  obtain ⟨u, rfl, rx⟩ := vals1 r
  cases rx
  exact d_len I (.inl hp) fun t s' I' => ⟨.int kvs.length, H, I', ⟨t, rfl⟩, q⟩
theorem call_lenAll : CallR X (.builtin "len") (rLenAll X.K) := call_len_seq.or (call_len_str.or (call_lenK.or call_len_dT))
theorem o_len : OpN K (rLenAll K) lenD := by
  intro W σ mu H S xs vs Q hS hr hp
  unfold lenD at hp
  split at hp
  · rename_i x
    obtain ⟨v, rfl, rv⟩ := one_of hr
    cases rv with
    | str z =>
      have hp' : Post K W σ mu H _ (match (if z.length ≤ sizeLine then some z.length else none) with
        | some n => Res.ok (D.int n) S
        | none => .bad) := hp
      by_cases h : z.length ≤ sizeLine
      · rw [if_pos h] at hp'
        exact .inr (.inl ⟨z, rfl, h, hp' mu H Ext.refl hS _ (.int _)⟩)
      · rw [if_neg h] at hp'
        exact hp'.elim
    | tup _ hq hrs =>
      refine .inl ⟨_, _, rfl, .inr (sqT_t hq), ?_⟩
      rw [hrs.length]
      exact hp mu H Ext.refl hS _ (.int _)
    | rls hq hrs =>
      refine .inl ⟨_, _, rfl, .inl hq.sqL, ?_⟩
      rw [hrs.length]
      exact hp mu H Ext.refl hS _ (.int _)
    | loc hn =>
      obtain ⟨o, ho, q⟩ := hS.obj hn
      unfold lenOf at hp
      simp only [ho] at hp
      cases o with
      | lst ds =>
        obtain ⟨us, h1, hrs⟩ := q
        refine .inl ⟨_, _, rfl, .inl (.inl (.inl h1)), ?_⟩
        rw [hrs.length]
        exact hp mu H Ext.refl hS _ (.int _)
      | dct ds =>
        obtain ⟨us, h1, hrs⟩ := q
        refine .inr (.inr (.inl ⟨_, _, rfl, h1, ?_⟩))
        rw [Paired.length hrs]
        exact hp mu H Ext.refl hS _ (.int _)
      | dcT ds =>
        obtain ⟨us, h1, hrs⟩ := q
        refine .inr (.inr (.inr ⟨_, _, rfl, h1, ?_⟩))
        rw [Paired.length hrs]
        exact hp mu H Ext.refl hS _ (.int _)
      | tab _ _ => exact hp.elim
      | ins _ _ => exact hp.elim
    | _ => exact hp.elim
  · exact hp.elim
def toB : List D → Option (List Bool)
  | [] => some []
  | .bl i :: ds => (toB ds).map (i :: ·)
  | _ :: _ => none
def allD : List D → M D
  | [.loc n] => fun S => match S[n]? with
    | some (.lst ds) => match toB ds with
      | some bs => .ok (.bl (bs.all id)) S
      | none => .bad
    | _ => .bad
  | _ => fail
def anyD : List D → M D
  | [.loc n] => fun S => match S[n]? with
    | some (.lst ds) => match toB ds with
      | some bs => .ok (.bl (bs.any id)) S
      | none => .bad
    | _ => .bad
  | _ => fail
theorem toB_reps {mu : List Addr} {H : Hp} : ∀ {ds : List D} {vs : List V} {ns : List Bool}, toB ds = some ns → Reps K mu H vs ds → vs = ns.map V.bl := by
  intro ds
  induction ds with
  | nil =>
    intro vs ns e r
    cases r
    cases e
    rfl
  | cons d ds ih =>
    intro vs ns e r
    cases r with
    | cons h t =>
      cases d with
      | bl i =>
        cases h
        obtain ⟨ps, e1, e2⟩ := map_some e
        subst e2
        rw [ih e1 t]
        rfl
      | _ => cases e
theorem o_all : OpN K (rAll K) allD := by
  intro W σ mu H S xs vs Q hS hr hp
  unfold allD at hp
  split at hp
  · obtain ⟨v, rfl, rv⟩ := one_of hr
    cases rv with
    | loc hn =>
      obtain ⟨o, ho, q⟩ := hS.obj hn
      simp only [ho] at hp
      cases o with
      | lst ds =>
        obtain ⟨us, h1, hrs⟩ := q
        simp only at hp
        cases e : toB ds with
        | none => rw [e] at hp; exact hp.elim
        | some bs =>
          rw [e] at hp
          exact ⟨_, bs, rfl, .inl (.inl (by rw [← toB_reps e hrs]; exact h1)), hp mu H Ext.refl hS _ (.bl _)⟩
      | dct _ => exact hp.elim
      | dcT _ => exact hp.elim
      | tab _ _ => exact hp.elim
      | ins _ _ => exact hp.elim
  · exact hp.elim
theorem o_any : OpN K (rAny K) anyD := by
  intro W σ mu H S xs vs Q hS hr hp
  unfold anyD at hp
  split at hp
  · obtain ⟨v, rfl, rv⟩ := one_of hr
    cases rv with
    | loc hn =>
      obtain ⟨o, ho, q⟩ := hS.obj hn
      simp only [ho] at hp
      cases o with
      | lst ds =>
        obtain ⟨us, h1, hrs⟩ := q
        simp only at hp
        cases e : toB ds with
        | none => rw [e] at hp; exact hp.elim
        | some bs =>
          rw [e] at hp
          exact ⟨_, bs, rfl, .inl (.inl (by rw [← toB_reps e hrs]; exact h1)), hp mu H Ext.refl hS _ (.bl _)⟩
      | dct _ => exact hp.elim
      | dcT _ => exact hp.elim
      | tab _ _ => exact hp.elim
      | ins _ _ => exact hp.elim
  · exact hp.elim
/-! repr -/
def shows (d : PyData) : Bool := d.showable && !d.hasDict && decide (d.depth ≤ 60) && decide (d.shown.length ≤ sizeLine)
def reprD : List D → M D
  | [x] => fun S => match snap S 40 x with
    | some d => if shows d = true then .ok (.str d.shown) S else .bad
    | none => .bad
  | _ => fail
def rRepr (K : PySem.W.Frag) : List V → Hp → VK → Prop := fun xs H Q => ∃ v d, xs = [v] ∧ Dp K H v d ∧ shows d = true ∧ Q (.str d.shown) H
theorem call_repr {k : Nat} (hr : Room k X.A) (hg : X.A.guards = some []) : CallR X (.builtin "repr") (rRepr X.K) := by
  intro pins s σ H xs us Q I r h
  obtain ⟨v, d, rfl, hd, hs, q⟩ := h
  obtain ⟨u, rfl, ru⟩ := vals1 r
  unfold shows at hs
  simp only [Bool.and_eq_true, decide_eq_true_eq, Bool.not_eq_true'] at hs
  obtain ⟨⟨⟨h1, h2⟩, h3⟩, h4⟩ := hs
  obtain ⟨as, rd⟩ := Dp.reads I d v u hd ru
  have hu : X.A.units + (d.depth + 1) < cLine := by
    have := hr.units
    omega
  have big : ∀ a, u = .ref a → wpAny (model X.prog X.w) X.A (call (.builtin "repr") [u]) (EP X pins σ Q) X.xe s := fun a e => by
    subst e
    refine repr_of_reads' rd h1 (fun z => by rw [h2] at z; cases z) hg hu (fun _ _ e => e) (fun h' tk t hk => ?_) h4
    exact ⟨.str d.shown, H, I.kept hk, ⟨_, rfl⟩, q⟩
  cases rd with
  | none => exact PySem.P.repr_of_none ⟨.str _, H, I.tok _, ⟨_, rfl⟩, by simpa [PyData.shown] using q⟩
  | bool b => exact PySem.P.repr_of_bool ⟨.str _, H, I.tok _, ⟨_, rfl⟩, by simpa [PyData.shown] using q⟩
  | int i t => exact PySem.P.repr_of_int (by simpa [PyData.showable] using h1) ⟨.str _, H, I.tok _, ⟨_, rfl⟩, by simpa [PyData.shown] using q⟩
  | str x t => exact PySem.P.repr_of_str (by exact ⟨.str _, H, I.tok _, ⟨_, rfl⟩, by simpa [PyData.shown] using q⟩) (by simpa [PyData.shown] using h4)
  | list _ _ _ _ => exact big _ rfl
  | tuple _ _ _ _ => exact big _ rfl
  | dict _ _ _ _ => exact big _ rfl
theorem o_repr : OpN K (rRepr K) reprD := by
  intro W σ mu H S xs vs Q hS hr hp
  unfold reprD at hp
  split at hp
  · obtain ⟨v, rfl, rv⟩ := one_of hr
    rename_i x
    cases e : snap S 40 x with
    | none => rw [e] at hp; exact hp.elim
    | some d =>
      simp only [e] at hp
      by_cases h : shows d = true
      · rw [if_pos h] at hp
        exact ⟨v, d, rfl, snap_dp hS _ _ _ _ e rv, h, hp mu H Ext.refl hS _ (.str _)⟩
      · rw [if_neg h] at hp
        exact hp.elim
  · exact hp.elim
/-! isinstance of built-in classes -/
inductive Ty where
  | non | bool | int | str | tuple | list | dict
  deriving DecidableEq
def Ty.name : Ty → String
  | .non => "NoneType" | .bool => "bool" | .int => "int" | .str => "str" | .tuple => "tuple" | .list => "list" | .dict => "dict"
def tyD (S : Sto) : D → Option Ty
  | .non => some .non
  | .bl _ => some .bool
  | .int _ => some .int
  | .str _ => some .str
  | .tup _ => some .tuple
  | .ktp _ => some .tuple
  | .rls _ => some .list
  | .loc n => match S[n]? with
    | some (.lst _) => some .list
    | some (.dct _) => some .dict
    | _ => none
  | _ => none
def isa (t : Ty) (n : String) : Option Bool :=
  if n = "int" then some (t == .int || t == .bool) else if n = "bool" then some (t == .bool) else if n = "str" then some (t == .str) else if n = "tuple" then some (t == .tuple)
  else if n = "list" then some (t == .list) else if n = "dict" then some (t == .dict) else none
theorem isa_kit {t : Ty} {n : String} {b : Bool} (h : isa t n = some b) : kitB t.name n = some b := by
  unfold isa at h
  split at h
  · subst n; cases h; cases t <;> decide +kernel
  split at h
  · subst n; cases h; cases t <;> decide +kernel
  split at h
  · subst n; cases h; cases t <;> decide +kernel
  split at h
  · subst n; cases h; cases t <;> decide +kernel
  split at h
  · subst n; cases h; cases t <;> decide +kernel
  split at h
  · subst n; cases h; cases t <;> decide +kernel
  · cases h
def isiD : List D → M D
  | [x, .ty n] => fun S => match tyD S x with
    | some t => match isa t n with
      | some b => .ok (.bl b) S
      | none => .bad
    | none => .bad
  | _ => fail
theorem tyD_ty {mu : List Addr} {H : Hp} {S : Sto} {v : V} {x : D} {t : Ty} (hS : HRep K mu H S) (rv : Rep K mu H v x) (h : tyD S x = some t) : TyX K H v (.type t.name) := by
  cases rv with
  | non => cases h; exact .base .non
  | bl b => cases h; exact .base (.bl b)
  | int b => cases h; exact .base (.int b)
  | str b => cases h; exact .base (.str b)
  | ty _ => cases h
  | adr _ => cases h
  | tup _ hq hr =>
    cases h
    exact .fTuple hq
  | ktp hq hr =>
    cases h
    obtain ⟨o, its, n, h1, h2, _⟩ := hq
    exact .kTuple h1 h2
  | rls hq hr =>
    cases h
    rcases hq with ⟨o, h⟩ | ⟨o, its, n, h1, h2, _⟩
    · exact .base (.frz h)
    · exact .kList h1 h2
  | loc hn =>
    obtain ⟨o, ho, q⟩ := hS.obj hn
    unfold tyD at h
    simp only [ho] at h
    cases o with
    | lst ds =>
      cases h
      obtain ⟨us, h1, _⟩ := q
      exact .base (.lst h1)
    | dct ds =>
      cases h
      obtain ⟨us, h1, _⟩ := q
      exact .base (.dK h1)
    | dcT _ => cases h
    | tab _ _ => cases h
    | ins _ _ => cases h
  | exn _ _ _ _ _ _ _ => cases h
  | ttp _ _ => cases h
theorem o_isi : OpN K (rIsi K) isiD := by
  intro W σ mu H S xs vs Q hS hr hp
  unfold isiD at hp
  split at hp
  · rename_i x n
    obtain ⟨v, w, rfl, rv, rw⟩ := two_of hr
    cases rw
    cases e : tyD S x with
    | none => rw [e] at hp; exact hp.elim
    | some t =>
      simp only [e] at hp
      cases e2 : isa t n with
      | none => rw [e2] at hp; exact hp.elim
      | some b =>
        rw [e2] at hp
        exact ⟨v, .ty n, _, _, b, rfl, .ty n, tyD_ty hS rv e, kit_ty (isa_kit e2), hp mu H Ext.refl hS _ (.bl _)⟩
  · exact hp.elim
/-! ### methods of lists -/
def lstAt (S : Sto) : D → Option (Nat × List D)
  | .loc n => match S[n]? with
    | some (.lst ds) => some (n, ds)
    | _ => none
  | _ => none
/-- o.m(..) of a list -/
def mLM (f : D → List D → M D) (o : Env → M D) (ms : Env → M (List D)) : Env → M D := fun r => bnd (o r) fun x S => if (lstAt S x).isSome = true then bnd (ms r) (f x) S else .bad
def OpM (K : PySem.W.Frag) (r : V → List V → Hp → VK → Prop) (f : D → List D → M D) : Prop := ∀ (W : WX) (σ : L2.St) mu H S x xs v vs (Q : VK), HRep K mu H S → Rep K mu H v x → Reps K mu H vs xs → Post K W σ mu H (fun d _ mu' H' => ∀ u, Rep K mu' H' u d → Q u H') (f x xs S) → r v vs H Q
theorem lstAt_of {mu : List Addr} {H : Hp} {S : Sto} {v : V} {x : D} {n : Nat} {ds : List D} (hS : HRep K mu H S) (rv : Rep K mu H v x) (h : lstAt S x = some (n, ds)) : ∃ a vs, v = .ref a ∧ x = .loc n ∧ mu[n]? = some a ∧ S[n]? = some (.lst ds) ∧ H a = some (.lst vs) ∧ Reps K mu H vs ds := by
  cases rv with
  | loc hn =>
    obtain ⟨o, ho, q⟩ := hS.obj hn
    unfold lstAt at h
    simp only [ho] at h
    cases o with
    | lst es =>
      cases h
      obtain ⟨us, h1, h2⟩ := q
      exact ⟨_, us, rfl, rfl, hn, ho, h1, h2⟩
    | dct _ => cases h
    | dcT _ => cases h
    | tab _ _ => cases h
    | ins _ _ => cases h
  | _ => cases h
theorem se_lm {W : WX} {name : Str} {r : V → List V → Hp → VK → Prop} {f : D → List D → M D} {o e : Expr} {es : List Expr} {mo : Env → M D} {ms : Env → M (List D)} {pos apos : Pos} (hf : OpM X.K r f) (ho : SE X W o mo) (ha : SA X W (e :: es) ms)
    (base : ∀ {to : TE} {t : TA}, PE X o to → PA X (e :: es) t → PE X (.Call (.Attribute o name apos) (e :: es) [] pos) (tBM X.K "list" r to t)) : SE X W (.Call (.Attribute o name apos) (e :: es) [] pos) (mLM f mo ms) := peI (base ho ha) fun σ H Q q => by
  obtain ⟨r, mu, S, hS, he, hp⟩ := q
  refine ⟨r, mu, S, hS, he, hp.bnd.imp fun x S1 mu1 H1 ex hS1 q1 v rv => ?_⟩
  by_cases h : (lstAt S1 x).isSome = true
  · rw [if_pos h] at q1
    obtain ⟨⟨n, ds⟩, hl⟩ := Option.isSome_iff_exists.mp h
    obtain ⟨a, vs, rfl, rfl, hn, _, h1, _⟩ := lstAt_of hS1 rv hl
    refine ⟨.inl ⟨rfl, vs, .inl (.inl h1)⟩, r, mu1, S1, hS1, he.mono ex, q1.bnd.imp fun y S2 mu2 H2 ex2 hS2 q2 w rw => ?_⟩
    exact hf W σ mu2 H2 S2 _ _ _ _ Q hS2 (rv.mono ex2) rw q2
  · rw [if_neg h] at q1
    exact q1.elim
def appD : D → List D → M D := fun x ds S => match lstAt S x, ds with
  | some (n, xs), [d] => if xs.length < sizeLine then .ok .non (S.set n (.lst (xs ++ [d]))) else .bad
  | _, _ => .bad
theorem o_app : OpM K rAppend appD := by
  intro W σ mu H S x xs v vs Q hS rv rs hp
  unfold appD at hp
  cases e : lstAt S x with
  | none => rw [e] at hp; exact hp.elim
  | some p =>
    obtain ⟨n, ds⟩ := p
    rw [e] at hp
    match xs, hp, rs with
    | [], hp, _ => exact hp.elim
    | [d], hp, rs =>
      obtain ⟨w, rfl, rw⟩ := one_of rs
      obtain ⟨a, us, rfl, rfl, hn, hs, h1, h2⟩ := lstAt_of hS rv e
      simp only at hp
      by_cases h : ds.length < sizeLine
      · rw [if_pos h] at hp
        have ext : Ext mu H mu (upd H a (.lst (us ++ [w]))) := ext_put hn h1 trivial
        exact ⟨a, us, w, rfl, rfl, h1, by rw [h2.length]; exact h, hp mu _ ext (hS.put (u' := .lst us) hn ext ⟨_, upd_same, (h2.append (.cons rw .nil)).mono ext⟩) _ .non⟩
      · rw [if_neg h] at hp
        exact hp.elim
    | _ :: _ :: _, hp, _ => exact hp.elim
def extD : D → List D → M D := fun x ds S => match lstAt S x, ds with
  | some (n, xs), [d] => match lstAt S d with
    | some (_, ys) => if xs.length + ys.length ≤ sizeLine then .ok .non (S.set n (.lst (xs ++ ys))) else .bad
    | none => .bad
  | _, _ => .bad
theorem o_ext : OpM K rExtend extD := by
  intro W σ mu H S x xs v vs Q hS rv rs hp
  unfold extD at hp
  cases e : lstAt S x with
  | none => rw [e] at hp; exact hp.elim
  | some p =>
    obtain ⟨n, ds⟩ := p
    rw [e] at hp
    match xs, hp, rs with
    | [], hp, _ => exact hp.elim
    | [d], hp, rs =>
      obtain ⟨w, rfl, rw⟩ := one_of rs
      obtain ⟨a, us, rfl, rfl, hn, hs, h1, h2⟩ := lstAt_of hS rv e
      simp only at hp
      cases e2 : lstAt S d with
      | none => rw [e2] at hp; exact hp.elim
      | some p2 =>
        obtain ⟨n2, ys⟩ := p2
        obtain ⟨b, ws, rfl, rfl, hn2, hs2, h3, h4⟩ := lstAt_of hS rw e2
        rw [e2] at hp
        simp only at hp
        by_cases h : ds.length + ys.length ≤ sizeLine
        · rw [if_pos h] at hp
          have ext : Ext mu H mu (upd H a (.lst (us ++ ws))) := ext_put hn h1 trivial
          exact ⟨a, b, us, ws, rfl, rfl, h1, h3, by rw [h2.length, h4.length]; exact h, hp mu _ ext (hS.put (u' := .lst us) hn ext ⟨_, upd_same, (h2.append h4).mono ext⟩) _ .non⟩
        · rw [if_neg h] at hp
          exact hp.elim
    | _ :: _ :: _, hp, _ => exact hp.elim
end
end Fa
namespace Fa
open PySem PySem.Spec PyProof.Rows L2
/-! ### calls with keywords -/
def pick {α : Type} (ix : List Nat) (l : List α) : List α := ix.filterMap fun i => l[i]?
theorem pick_vals : ∀ (ix : List Nat) {vs : List V} {us : List Value}, Vals vs us → Vals (pick ix vs) (pick ix us)
  | [], _, _, _ => .nil
  | i :: ix, vs, us, h => by
    unfold pick
    cases e : vs[i]? with
    | none =>
      have e2 := h.none_of e
      rw [List.filterMap_cons, List.filterMap_cons, e, e2]
      exact pick_vals ix h
    | some v =>
      obtain ⟨u, e2, r⟩ := h.get e
      rw [List.filterMap_cons, List.filterMap_cons, e, e2]
      exact .cons r (pick_vals ix h)
theorem pick_reps {K : PySem.W.Frag} {mu : List Addr} {H : Hp} : ∀ (ix : List Nat) {vs : List V} {ds : List D}, Reps K mu H vs ds → Reps K mu H (pick ix vs) (pick ix ds)
  | [], _, _, _ => .nil
  | i :: ix, vs, ds, h => by
    unfold pick
    cases e : ds[i]? with
    | none =>
      have e2 : vs[i]? = none := by
        rw [List.getElem?_eq_none_iff, h.length]
        exact List.getElem?_eq_none_iff.mp e
      rw [List.filterMap_cons, List.filterMap_cons, e, e2]
      exact pick_reps ix h
    | some v =>
      obtain ⟨u, e2, r⟩ := h.get e
      rw [List.filterMap_cons, List.filterMap_cons, e, e2]
      exact .cons r (pick_reps ix h)
def KB (K : PySem.W.Frag) (fd : FuncData) (ps ks : List Str) (n : Nat) (ix : List Nat) : Prop := ∀ (s : Shared) (us ws : List Value), K.In s.heap → us.length = n → ws.length = ks.length → BindsTo s fd ⟨us, ks.zip ws⟩ (ps.zip (pick ix (us ++ ws)))
abbrev SK (X : Cx) (W : WX) (kws : List Keyword) (m : Env → M (List D)) : Prop := PK X kws (rdA X.K W m)
def kwF (n : Nat) (ix : List Nat) (F : List D → M D) : List D → M D := fun zs => if zs.length = n then F (pick ix zs) else fail
section
variable {X : Cx} {W : WX} {k : Nat} {f : Addr} {fd : FuncData} {ps ks : List Str} {F : List D → M D} {x : Str} {p pos kpos : Pos} {e : Expr} {es : List Expr} {kws : List Keyword} {ma : Env → M D} {ms mk : Env → M (List D)} {ix : List Nat} {nm : Option Str}
theorem pkI {e : List Keyword} {t t' : TA} (h : PK X e t) (i : ∀ σ H Q, t' σ H Q → t σ H Q) : PK X e t' := ⟨fun w p s σ H Q I q => h.run w p s σ H Q I (i σ H Q q)⟩
theorem sk_nil : SK X W [] mNil := pkI pk_nil fun σ H Q q => by
  obtain ⟨r, mu, S, hS, he, hp⟩ := q
  exact hp mu H Ext.refl hS [] .nil
theorem sk_cons (ha : SE X W e ma) (hr : SK X W kws mk) : SK X W (⟨nm, e, kpos⟩ :: kws) (mCons ma mk) := pkI (pk_cons ha hr) fun σ H Q q => by
  obtain ⟨r, mu, S, hS, he, hp⟩ := q
  refine ⟨r, mu, S, hS, he, hp.bnd.imp fun x S1 mu1 H1 ex hS1 q1 v rv => ?_⟩
  refine ⟨r, mu1, S1, hS1, he.mono ex, q1.bnd.imp fun y S2 mu2 H2 ex2 hS2 q2 w rw => ?_⟩
  exact q2 mu2 H2 Ext.refl hS2 _ (.cons (rv.mono ex2) rw)
theorem se_callK0 (G : FnG X.prog X.w X.K X.mg X.base k f fd ps F) (hr : Room k X.A) (hgd : X.A.guards = some []) (tk : Takes X W) (hg : Gl X x) (hm : X.mg x = some (.ref f)) (hk : PySem.W.keepIn X.K (.ref f) = true) (hb : KB X.K fd ps ks 0 ix) (ar : arity ps.length F)
    (hkw : SK X W kws mk) (hall : (backToKw pos (keywordEach kws X.env)).all (·.1.isSome) = true := by rfl) (hks : (backToKw pos (keywordEach kws X.env)).filterMap (·.1) = ks := by rfl) (hdb : (x == ("__debug__" : Str)) = false := by decide)
    (hpl : ((backTo pos (starEach [] X.env)).any (·.1) || (backToKw pos (keywordEach kws X.env)).any (·.1.isNone)) = false := by rfl) :
    SE X W (.Call (.Name x p) [] kws pos) (mA (kwF ks.length ix F) mk) := by
  constructor
  intro pins s σ H Q I q
  obtain ⟨r, mu, S, hS, hE, hp⟩ := q
  refine wpAny_Call_Name_kw (ld_glob I hg hm ?_ hdb)
  have q1 : rdA X.K W mk σ H fun vs H1 => vs.length = ks.length ∧ (pick ix vs).length = ps.length ∧ prom X.K F (pick ix vs) H1 Q (WE W σ) := by
    refine ⟨r, mu, S, hS, hE, hp.bnd.imp fun ds S1 m2 H2 ex h2 q2 vs rv => ?_⟩
    unfold kwF at q2
    by_cases hl : ds.length = ks.length
    · rw [if_pos hl] at q2
      have rp := pick_reps ix rv
      refine ⟨by rw [rv.length]; exact hl, ?_, prom_of h2 rp q2⟩
      rw [rp.length]
      refine Decidable.byContradiction fun z => ?_
      rw [ar _ S1 z] at q2
      exact q2
    · rw [if_neg hl] at q2
      exact q2.elim
  refine PySem.W.callWith_KW0 (h₀ := X.base) I.ok.mod.kin hk hall (thn (hkw.run pos pins s σ H _ I q1) fun ws s1 z => ?_) hpl
  obtain ⟨vs, H1, I1, rv, hl, hl2, hpr⟩ := z
  rw [hks]
  refine ⟨I1.kIn, runG (ar := ⟨[], ks.zip ws⟩) (us := pick ix ws) G hr hgd tk I1 (hb s1 [] ws I1.kIn rfl (by rw [← rv.length]; exact hl)) (pick_vals ix rv) hl2 hpr⟩
def kwF2 (n m : Nat) (ix : List Nat) (F : List D → M D) (ds zs : List D) : M D := if ds.length = n ∧ zs.length = m then F (pick ix (ds ++ zs)) else fail
def mA2 (f : List D → List D → M D) (a b : Env → M (List D)) : Env → M D := fun r => bnd (a r) fun x => bnd (b r) fun y => f x y
theorem se_callK {n : Nat} (G : FnG X.prog X.w X.K X.mg X.base k f fd ps F) (hr : Room k X.A) (hgd : X.A.guards = some []) (tk : Takes X W) (hg : Gl X x) (hm : X.mg x = some (.ref f)) (hk : PySem.W.keepIn X.K (.ref f) = true) (hb : KB X.K fd ps ks n ix) (ar : arity ps.length F)
    (ha : SA X W (e :: es) ms) (hkw : SK X W kws mk) (hall : (backToKw pos (keywordEach kws X.env)).all (·.1.isSome) = true := by rfl) (hks : (backToKw pos (keywordEach kws X.env)).filterMap (·.1) = ks := by rfl) (hdb : (x == ("__debug__" : Str)) = false := by decide)
    (he : starEach (e :: es) X.env = (false, eval e X.env) :: starEach es X.env := by rfl)
    (hpl : ((backTo pos (starEach (e :: es) X.env)).any (·.1) || (backToKw pos (keywordEach kws X.env)).any (·.1.isNone)) = false := by rfl) :
    SE X W (.Call (.Name x p) (e :: es) kws pos) (mA2 (kwF2 n ks.length ix F) ms mk) := by
  constructor
  intro pins s σ H Q I q
  obtain ⟨r, mu, S, hS, hE, hp⟩ := q
  refine wpAny_Call_Name_kw (ld_glob I hg hm ?_ hdb)
  have q1 : rdA X.K W ms σ H fun as H1 => rdA X.K W mk σ H1 fun vs H2 => as.length = n ∧ vs.length = ks.length ∧ (pick ix (as ++ vs)).length = ps.length ∧ prom X.K F (pick ix (as ++ vs)) H2 Q (WE W σ) := by
    refine ⟨r, mu, S, hS, hE, hp.bnd.imp fun ds S1 m2 H2 ex h2 q2 as ra => ?_⟩
    refine ⟨r, m2, S1, h2, hE.mono ex, q2.bnd.imp fun zs S2 m3 H3 ex3 h3 q3 vs rv => ?_⟩
    unfold kwF2 at q3
    by_cases hl : ds.length = n ∧ zs.length = ks.length
    · rw [if_pos hl] at q3
      have rp := pick_reps ix ((ra.mono ex3).append rv)
      refine ⟨by rw [ra.length]; exact hl.1, by rw [rv.length]; exact hl.2, ?_, prom_of h3 rp q3⟩
      rw [rp.length]
      refine Decidable.byContradiction fun z => ?_
      rw [ar _ S2 z] at q3
      exact q3
    · rw [if_neg hl] at q3
      exact q3.elim
  refine PySem.W.callWith_KW (h₀ := X.base) I.ok.mod.kin hk hall (thn (ha.run pos pins s σ H _ I q1) fun us s1 z => ?_) hpl he
  obtain ⟨as, H1, I1, ra, q2⟩ := z
  refine thn (hkw.run pos pins s1 σ H1 _ I1 q2) fun ws s2 z => ?_
  obtain ⟨vs, H2, I2, rv, hn, hl, hl2, hpr⟩ := z
  rw [hks]
  refine ⟨I2.kIn, runG (ar := ⟨us, ks.zip ws⟩) (us := pick ix (us ++ ws)) G hr hgd tk I2 (hb s2 us ws I2.kIn (by rw [← ra.length]; exact hn) (by rw [← rv.length]; exact hl)) (pick_vals ix (ra.append rv)) hl2 hpr⟩
end
end Fa
namespace Fa
open PySem PySem.Spec PyProof.Rows L2
/-! ### the functions run: one equation a step, each fully applied -/
def bK {α β : Type} (m : Res α) (f : α → M β) : Res β := match m with
  | .ok a S' => f a S'
  | .err x S' => .err x S'
  | .bad => .bad
theorem bK_ok {α β : Type} (a : α) (S : Sto) (f : α → M β) : bK (.ok a S) f = f a S := id rfl
theorem bK_err {α β : Type} (a : Exn) (S : Sto) (f : α → M β) : bK (.err a S) f = .err a S := id rfl
theorem bK_bad {α β : Type} (f : α → M β) : bK .bad f = .bad := id rfl
theorem bnd_ap {α β : Type} (m : M α) (f : α → M β) (S : Sto) : bnd m f S = bK (m S) f := id rfl
theorem ret_ap {α : Type} (a : α) (S : Sto) : ret a S = .ok a S := id rfl
theorem fail_ap {α : Type} (S : Sto) : (fail S : Res α) = .bad := id rfl
section
variable (r : Env) (S : Sto) (d x y : D) (ds xs : List D) (a b : Env → M D) (ms : Env → M (List D)) (c c' : Env → M Bool) (p q : Env → Sto → Out) (i : Nat) (g : Tg) (k : List D → Env → M Env)
def vK : Option (Option D) → M D
  | some (some d) => ret d
  | _ => fail
theorem mVar_ap : mVar i r S = vK r[i]? S := by
  unfold mVar
  cases r[i]? with
  | none => rfl
  | some o => cases o <;> rfl
theorem vK_some : vK (some (some d)) S = .ok d S := id rfl
theorem mC_ap : mC d r S = .ok d S := id rfl
theorem m1_ap (f : D → M D) : m1 f a r S = bK (a r S) f := id rfl
def k2 (f : D → D → M D) (b : Env → M D) (r : Env) (x : D) : M D := bnd (b r) (f x)
theorem m2_ap (f : D → D → M D) : m2 f a b r S = bK (a r S) (k2 f b r) := id rfl
theorem k2_ap (f : D → D → M D) : k2 f b r x S = bK (b r S) (f x) := id rfl
theorem mNil_ap : mNil r S = .ok [] S := id rfl
def kCons (b : Env → M (List D)) (r : Env) (x : D) : M (List D) := bnd (b r) fun xs => ret (x :: xs)
def kCon (x : D) (xs : List D) : M (List D) := ret (x :: xs)
theorem mCons_ap : mCons a ms r S = bK (a r S) (kCons ms r) := id rfl
theorem kCons_ap : kCons ms r x S = bK (ms r S) (kCon x) := id rfl
theorem kCon_ap : kCon x xs S = .ok (x :: xs) S := id rfl
theorem mA_ap (f : List D → M D) : mA f ms r S = bK (ms r S) f := id rfl
def kIf (a b : Env → M D) (r : Env) (k : Bool) : M D := if k = true then a r else b r
theorem mIf_ap : mIf c a b r S = bK (c r S) (kIf a b r) := id rfl
theorem kIf_t : kIf a b r true S = a r S := id rfl
theorem kIf_f : kIf a b r false S = b r S := id rfl
theorem tOf_ap : tOf a r S = bK (a r S) isBl := id rfl
theorem isBl_ap (t : Bool) : isBl (.bl t) S = .ok t S := id rfl
def kNt (t : Bool) : M Bool := ret (!t)
theorem tNt_ap : tNt c r S = bK (c r S) kNt := id rfl
theorem kNt_ap (t : Bool) : kNt t S = .ok (!t) S := id rfl
def kAn (b : Env → M Bool) (r : Env) (k : Bool) : M Bool := if k = true then b r else ret false
theorem tAn_ap : tAn c c' r S = bK (c r S) (kAn c' r) := id rfl
theorem kAn_t : kAn c r true S = c r S := id rfl
theorem kAn_f : kAn c r false S = .ok false S := id rfl
def kOr (b : Env → M Bool) (r : Env) (k : Bool) : M Bool := if k = true then ret true else b r
theorem tOr_ap : Fa.tOr c c' r S = bK (c r S) (kOr c' r) := id rfl
theorem kOr_t : kOr c r true S = .ok true S := id rfl
theorem kOr_f : kOr c r false S = c r S := id rfl
def kNot (x : D) : M D := bnd (isBl x) fun b => ret (.bl (!b))
theorem mNot_ap : mNot a r S = bK (a r S) kNot := id rfl
theorem kNot_ap (t : Bool) : kNot (.bl t) S = .ok (.bl (!t)) S := id rfl
def kAnd (b : Env → M D) (r : Env) (x : D) : M D := bnd (isBl x) fun k => if k = true then b r else ret (.bl false)
theorem mAnd_ap : mAnd a b r S = bK (a r S) (kAnd b r) := id rfl
theorem kAnd_t : kAnd b r (.bl true) S = b r S := id rfl
theorem kAnd_f : kAnd b r (.bl false) S = .ok (.bl false) S := id rfl
def kOrV (b : Env → M D) (r : Env) (x : D) : M D := bnd (isBl x) fun k => if k = true then ret (.bl true) else b r
theorem mOr_ap : mOr a b r S = bK (a r S) (kOrV b r) := id rfl
theorem kOrV_t : kOrV b r (.bl true) S = .ok (.bl true) S := id rfl
theorem kOrV_f : kOrV b r (.bl false) S = b r S := id rfl
/-! statements -/
def sK (o : Out) (b : Env → Sto → Out) : Out := match o with
  | .nx r' S' => b r' S'
  | o => o
theorem sSeq_ap : sSeq p q r S = sK (p r S) q := by
  unfold sSeq sK
  cases p r S <;> rfl
theorem sK_nx : sK (.nx r S) q = q r S := id rfl
theorem sK_rt : sK (.rt d S) q = .rt d S := id rfl
theorem sK_bk : sK (.bk r S) q = .bk r S := id rfl
theorem sK_ct : sK (.ct r S) q = .ct r S := id rfl
theorem sK_ex (z : Exn) : sK (.ex z r S) q = .ex z r S := id rfl
theorem sK_bad : sK .bad q = .bad := id rfl
def oK {α : Type} (m : Res α) (f : α → Env → Sto → Out) (r : Env) : Out := match m with
  | .ok a S' => f a r S'
  | .err x S' => .ex x r S'
  | .bad => .bad
theorem oK_ok {α : Type} (a : α) (f : α → Env → Sto → Out) : oK (.ok a S) f r = f a r S := id rfl
theorem oK_err {α : Type} (z : Exn) (f : α → Env → Sto → Out) : oK (.err z S) f r = .ex z r S := id rfl
theorem oK_bad {α : Type} (f : α → Env → Sto → Out) : oK .bad f r = .bad := id rfl
theorem bndO_ap {α : Type} (m : Env → M α) (f : α → Env → Sto → Out) : bndO m f r S = oK (m r S) f r := by
  unfold bndO oK
  cases m r S <;> rfl
def kNx (_ : D) (r : Env) (S : Sto) : Out := .nx r S
def kRt (d : D) (_ : Env) (S : Sto) : Out := .rt d S
theorem kNx_ap : kNx d r S = .nx r S := id rfl
theorem kRt_ap : kRt d r S = .rt d S := id rfl
theorem sEx_ap : sEx a r S = oK (a r S) kNx r := bndO_ap r S a _
theorem sRet_ap : sRet a r S = oK (a r S) kRt r := bndO_ap r S a _
theorem sRetN_ap : sRetN r S = .rt .non S := id rfl
theorem sNx_ap : sNx r S = .nx r S := id rfl
theorem sBad_ap : sBad r S = .bad := id rfl
def kIfS (p q : Env → Sto → Out) (k : Bool) (r : Env) (S : Sto) : Out := if k = true then p r S else q r S
theorem sIf_ap : sIf c p q r S = oK (c r S) (kIfS p q) r := bndO_ap r S c _
theorem kIfS_t : kIfS p q true r S = p r S := id rfl
theorem kIfS_f : kIfS p q false r S = q r S := id rfl
theorem gN_ap : gN i d r S = .ok (r.set i (some d)) S := id rfl
theorem gT_ap : gT k (.tup ds) r S = k ds r S := id rfl
theorem gTc_ap : gTc g k (d :: ds) r S = bK (g d r S) (k ds) := id rfl
theorem gT0_ap : gT0 [] r S = .ok r S := id rfl
def kAs (g : Tg) (d : D) (r : Env) (S : Sto) : Out := match g d r S with
  | .ok r' S' => .nx r' S'
  | .err x S' => .ex x r S'
  | .bad => .bad
def kAs2 (m : Res Env) (r : Env) : Out := match m with
  | .ok r' S' => .nx r' S'
  | .err x S' => .ex x r S'
  | .bad => .bad
theorem sAs_ap : sAs a g r S = oK (a r S) (kAs g) r := bndO_ap r S a _
theorem kAs_ap : kAs g d r S = kAs2 (g d r S) r := id rfl
theorem kAs2_ok (r' : Env) : kAs2 (.ok r' S) r = .nx r' S := id rfl
def kPar (i j : Nat) (ds : List D) (r : Env) (S : Sto) : Out := match ds with
  | [x, y] => .nx ((r.set i (some x)).set j (some y)) S
  | _ => .bad
theorem sPar_ap (j : Nat) : sPar i j ms r S = oK (ms r S) (kPar i j) r := bndO_ap r S ms _
theorem kPar_ap (j : Nat) : kPar i j [x, y] r S = .nx ((r.set i (some x)).set j (some y)) S := id rfl
def kSub1 (mi : Env → M D) (d : D) (r : Env) (o : D) : M Env := bnd (mi r) fun i => bnd (setD o i d) fun _ => ret r
def kSub2 (d : D) (r : Env) (o i : D) : M Env := bnd (setD o i d) fun _ => ret r
def kSub3 (r : Env) (_ : Unit) : M Env := ret r
theorem gSubD_ap : gSubD a b d r S = bK (a r S) (kSub1 b d r) := id rfl
theorem kSub1_ap : kSub1 b d r x S = bK (b r S) (kSub2 d r x) := id rfl
theorem kSub2_ap : kSub2 d r x y S = bK (setD x y d S) (kSub3 r) := id rfl
theorem kSub3_ap : kSub3 r () S = .ok r S := id rfl
def fK (o : Out) : Res D := match o with
  | .nx _ S' => .ok .non S'
  | .rt d S' => .ok d S'
  | .ex x _ S' => .err x S'
  | _ => .bad
theorem fnM_ap (n np : Nat) (h : ds.length = np) : fnM n np p ds S = fK (p (ds.map some ++ List.replicate (n - np) none) S) := by
  unfold fnM fK
  rw [if_pos h]
  all_goals (cases p (ds.map some ++ List.replicate (n - np) none) S <;> rfl)
theorem fK_nx : fK (.nx r S) = .ok .non S := id rfl
theorem fK_rt : fK (.rt d S) = .ok d S := id rfl
theorem fK_ex (z : Exn) : fK (.ex z r S) = .err z S := id rfl
/-! operations -/
theorem tupD_ap (h : ds.length ≤ sizeLine) : tupD ds S = .ok (.tup ds) S := by
  unfold tupD
  rw [if_pos h]
  rfl
theorem lstD_ap (h : ds.length ≤ sizeLine) : lstD ds S = .ok (.loc S.length) (S ++ [.lst ds]) := by
  unfold lstD
  rw [if_pos h]
variable (m n : Int)
theorem add_ii : addD (.int m) (.int n) S = .ok (.int (m + n)) S := id rfl
theorem add_tt (h : ds.length + xs.length ≤ sizeLine) : addD (.tup ds) (.tup xs) S = .ok (.tup (ds ++ xs)) S := by
  show (if ds.length + xs.length ≤ sizeLine then ret (D.tup (ds ++ xs)) else fail) S = _
  rw [if_pos h]
  rfl
theorem add_ss (u v : Str) (h : u.length + v.length ≤ sizeLine) : addD (.str u) (.str v) S = .ok (.str (u ++ v)) S := by
  show (if u.length + v.length ≤ sizeLine then ret (D.str (u ++ v)) else fail) S = _
  rw [if_pos h]
  rfl
theorem add_ll {i j : Nat} {ds xs : List D} (h1 : S[i]? = some (.lst ds)) (h2 : S[j]? = some (.lst xs)) (h : ds.length + xs.length ≤ sizeLine) : addD (.loc i) (.loc j) S = .ok (.loc S.length) (S ++ [.lst (ds ++ xs)]) := by
  unfold addD
  simp only [h1, h2]
  rw [if_pos h]
theorem sub_ii : subD (.int m) (.int n) S = .ok (.int (m - n)) S := id rfl
theorem mul_ii (h : mulC m n = true) : mulD (.int m) (.int n) S = .ok (.int (m * n)) S := by
  show (if mulC m n = true then ret (D.int (m * n)) else fail) S = _
  rw [if_pos h]
  rfl
theorem fdiv_ii (h : divC m n = true) : fdivD (.int m) (.int n) S = .ok (.int (m.fdiv n)) S := by
  show (if divC m n = true then ret (D.int (m.fdiv n)) else fail) S = _
  rw [if_pos h]
  rfl
theorem mod_ii (h : modC m n = true) : modD (.int m) (.int n) S = .ok (.int (m.fmod n)) S := by
  show (if modC m n = true then ret (D.int (m.fmod n)) else fail) S = _
  rw [if_pos h]
  rfl
theorem pow_ii (h : powC m n = true) : powD (.int m) (.int n) S = .ok (.int (m ^ n.toNat)) S := by
  show (if powC m n = true then ret (D.int (m ^ n.toNat)) else fail) S = _
  rw [if_pos h]
  rfl
theorem neg_i : negD (.int m) S = .ok (.int (-m)) S := id rfl
theorem lt_ii : ltD (.int m) (.int n) S = .ok (.bl (decide (m < n))) S := id rfl
theorem le_ii : leD (.int m) (.int n) S = .ok (.bl (decide (m ≤ n))) S := id rfl
theorem gt_ii : gtD (.int m) (.int n) S = .ok (.bl (decide (n < m))) S := id rfl
theorem ge_ii : geD (.int m) (.int n) S = .ok (.bl (decide (n ≤ m))) S := id rfl
theorem isN_n (neg : Bool) : isN neg .non .non S = .ok (.bl (!neg)) S := id rfl
theorem isN_i (neg : Bool) : isN neg (.int m) .non S = .ok (.bl neg) S := id rfl
theorem isN_t (neg : Bool) : isN neg (.tup ds) .non S = .ok (.bl neg) S := id rfl
theorem isN_s (neg : Bool) (z : Str) : isN neg (.str z) .non S = .ok (.bl neg) S := id rfl
theorem isN_b (neg : Bool) (z : Bool) : isN neg (.bl z) .non S = .ok (.bl neg) S := id rfl
theorem isN_l (neg : Bool) : isN neg (.loc i) .non S = .ok (.bl neg) S := id rfl
theorem abs_i : absD [.int m] S = .ok (.int (if m < 0 then -m else m)) S := id rfl
theorem max_ii : maxD [.int m, .int n] S = .ok (.int (if n > m then n else m)) S := id rfl
theorem min_ii : minD [.int m, .int n] S = .ok (.int (if n < m then n else m)) S := id rfl
theorem int_i : Fa.intD [.int m] S = .ok (.int m) S := id rfl
theorem int_b (t : Bool) : Fa.intD [.bl t] S = .ok (.int (if t then 1 else 0)) S := id rfl
theorem len_t : lenD [.tup ds] S = .ok (.int ds.length) S := id rfl
theorem len_r : lenD [.rls ds] S = .ok (.int ds.length) S := id rfl
theorem len_l {i : Nat} {ds : List D} (h : S[i]? = some (.lst ds)) : lenD [.loc i] S = .ok (.int ds.length) S := by
  unfold lenD lenOf
  simp only [h]
theorem ix_t {ds : List D} {n : Int} {d : D} (h : atI ds n = some d) : ixD (.tup ds) (.int n) S = .ok d S := by
  show (match atI ds n with
    | some d => ret d
    | none => fail) S = _
  rw [h]
  rfl
theorem ix_r {ds : List D} {n : Int} {d : D} (h : atI ds n = some d) : ixD (.rls ds) (.int n) S = .ok d S := by
  show (match atI ds n with
    | some d => ret d
    | none => fail) S = _
  rw [h]
  rfl
theorem ix_l {i : Nat} {ds : List D} {n : Int} {d : D} (h : S[i]? = some (.lst ds)) (h2 : atI ds n = some d) : ixD (.loc i) (.int n) S = .ok d S := by
  unfold ixD
  simp only [h, h2]
theorem set_l {i j : Nat} {ds : List D} {n : Int} (h : S[i]? = some (.lst ds)) (h2 : ixN ds.length n = some j) : setD (.loc i) (.int n) d S = .ok () (S.set i (.lst (ds.set j d))) := by
  unfold setD
  simp only [h, h2]
theorem isi_i (n : String) (t : Bool) (h : isa .int n = some t) : isiD [.int m, .ty n] S = .ok (.bl t) S := by
  unfold isiD tyD
  simp only [h]
theorem isi_b (n : String) (z t : Bool) (h : isa .bool n = some t) : isiD [.bl z, .ty n] S = .ok (.bl t) S := by
  unfold isiD tyD
  simp only [h]
theorem isi_s (n : String) (z : Str) (t : Bool) (h : isa .str n = some t) : isiD [.str z, .ty n] S = .ok (.bl t) S := by
  unfold isiD tyD
  simp only [h]
theorem isi_n (n : String) (t : Bool) (h : isa .non n = some t) : isiD [.non, .ty n] S = .ok (.bl t) S := by
  unfold isiD tyD
  simp only [h]
theorem isi_t (n : String) (t : Bool) (h : isa .tuple n = some t) : isiD [.tup ds, .ty n] S = .ok (.bl t) S := by
  unfold isiD tyD
  simp only [h]
theorem isi_r (n : String) (t : Bool) (h : isa .list n = some t) : isiD [.rls ds, .ty n] S = .ok (.bl t) S := by
  unfold isiD tyD
  simp only [h]
theorem isi_l {i : Nat} {ds : List D} (n : String) (t : Bool) (h1 : S[i]? = some (.lst ds)) (h : isa .list n = some t) : isiD [.loc i, .ty n] S = .ok (.bl t) S := by
  unfold isiD tyD
  simp only [h1, h]
end
theorem le_line {n : Nat} (h : n ≤ 1000) : n ≤ sizeLine := Nat.le_trans h (by rw [sizeLine_eq]; decide)
/-! places in the store -/
theorem at_end (S : Sto) (o : MO) : (S ++ [o])[S.length]? = some o := by simp
theorem at_end2 (S l : Sto) (o : MO) : (S ++ o :: l)[S.length]? = some o := by simp
theorem set_end (S : Sto) (o o' : MO) : (S ++ [o]).set S.length o' = S ++ [o'] := by simp
theorem set_end2 (S l : Sto) (o o' : MO) : (S ++ o :: l).set S.length o' = S ++ o' :: l := by simp
theorem at_old {S l : Sto} {i : Nat} {o : MO} (h : S[i]? = some o) : (S ++ l)[i]? = some o := by
  obtain ⟨hl, _⟩ := List.getElem?_eq_some_iff.mp h
  rw [List.getElem?_append_left hl]
  exact h
theorem eq_ii (neg : Bool) (m n : Int) (S : Sto) : eqB neg (.int m) (.int n) S = .ok (.bl (if neg then !decide (m = n) else decide (m = n))) S := id rfl
theorem eq_bb (neg : Bool) (m n : Bool) (S : Sto) : eqB neg (.bl m) (.bl n) S = .ok (.bl (if neg then !decide (m = n) else decide (m = n))) S := id rfl
theorem eq_ss (neg : Bool) (m n : Str) (S : Sto) : eqB neg (.str m) (.str n) S = .ok (.bl (if neg then !decide (m = n) else decide (m = n))) S := id rfl
theorem eq_tt (neg : Bool) (m n : List D) (S : Sto) : eqB neg (.tup m) (.tup n) S = eqS neg (.tup m) (.tup n) S := id rfl
/-! ### comprehensions and loops, by what is walked -/
theorem push_at {S : Sto} {n : Nat} {ds : List D} (d : D) (h : S[n]? = some (.lst ds)) (hz : ds.length < sizeLine) : push n d S = some (S.set n (.lst (ds ++ [d]))) := by
  unfold push
  simp only [h, hz, if_true]
/-- nothing but new things is made -/
theorem lc_pure {src : Src} (items : List D) (f : D → D) {g : Tg} {t : Env → M Bool} {e : Env → M D} {r : Env} {S0 : Sto} (hn : ∀ l i, nextD src i (S0 ++ l) = some items[i]?)
    (h : ∀ d ∈ items, ∀ l, ∃ r' l', g d r (S0 ++ l) = .ok r' (S0 ++ l) ∧ t r' (S0 ++ l) = .ok true (S0 ++ l) ∧ e r' (S0 ++ l) = .ok (f d) (S0 ++ l ++ l')) (hz : items.length ≤ sizeLine) :
    ∃ l, lcGo src g t e S0.length r items.length 0 (S0 ++ [.lst []]) = .ok (.loc S0.length) (S0 ++ .lst (items.map f) :: l) := by
  have go : ∀ (k i : Nat) (l : Sto), i + k = items.length → ∃ l', lcGo src g t e S0.length r k i (S0 ++ .lst ((items.take i).map f) :: l) = .ok (.loc S0.length) (S0 ++ .lst (items.map f) :: l') := by
    intro k
    induction k with
    | zero =>
      intro i l hi
      have e0 : items[i]? = none := List.getElem?_eq_none_iff.mpr (by omega)
      refine ⟨l, ?_⟩
      unfold lcGo
      rw [hn, e0, List.take_of_length_le (by omega)]
    | succ k ih =>
      intro i l hi
      have hlt : i < items.length := by omega
      have e0 : items[i]? = some items[i] := List.getElem?_eq_getElem hlt
      obtain ⟨r', l', h1, h2, h3⟩ := h items[i] (List.getElem_mem hlt) (.lst ((items.take i).map f) :: l)
      unfold lcGo
      rw [hn, e0]
      simp only [h1, h2, h3]
      have hp : (S0 ++ (.lst ((items.take i).map f) :: l) ++ l')[S0.length]? = some (.lst ((items.take i).map f)) := by simp
      rw [push_at _ hp (by rw [List.length_map, List.length_take]; omega)]
      have e1 : (S0 ++ (.lst ((items.take i).map f) :: l) ++ l').set S0.length (.lst ((items.take i).map f ++ [f items[i]])) = S0 ++ .lst ((items.take (i + 1)).map f) :: (l ++ l') := by
        rw [List.append_assoc, List.cons_append, set_end2, List.take_add_one, e0, List.map_append]
        rfl
      simp only [e1]
      exact ih (i + 1) (l ++ l') (by omega)
  simpa using go items.length 0 [] (by omega)
theorem mLc_pure {m : Env → M Src} {src : Src} (items : List D) (f : D → D) {g : Tg} {t : Env → M Bool} {e : Env → M D} {vs : List Nat} {r : Env} {S S0 : Sto} (hm : m r S = .ok src S0) (ht : turns src S0 = items.length) (hn : ∀ l i, nextD src i (S0 ++ l) = some items[i]?)
    (h : ∀ d ∈ items, ∀ l, ∃ r' l', g d (wipeE r vs) (S0 ++ l) = .ok r' (S0 ++ l) ∧ t r' (S0 ++ l) = .ok true (S0 ++ l) ∧ e r' (S0 ++ l) = .ok (f d) (S0 ++ l ++ l')) (hz : items.length ≤ sizeLine) :
    ∃ l, mLc m g t e vs r S = .ok (.loc S0.length) (S0 ++ .lst (items.map f) :: l) := by
  unfold mLc
  rw [bnd_ap, hm, bK_ok, ht]
  exact lc_pure items f hn h hz
/-- a comprehension whose elements draw: all are d0 -/
theorem lc_draw {src : Src} (k : Nat) (d0 : D) (it : Nat → D) {g : Tg} {t : Env → M Bool} {e : Env → M D} {r : Env} {n : Nat} (I : Nat → Sto → Prop) (hn : ∀ i S, I i S → nextD src i S = some (if i < k then some (it i) else none))
    (h : ∀ i S, i < k → I i S → ∃ r' S', g (it i) r S = .ok r' S ∧ t r' S = .ok true S ∧ e r' S = .ok d0 S' ∧ S'[n]? = S[n]? ∧ I (i + 1) S') (hI : ∀ i S o, I i S → I i (S.set n o)) (hz : k ≤ sizeLine) {S : Sto} (h0 : I 0 S) (hS : S[n]? = some (.lst [])) :
    ∃ S', lcGo src g t e n r k 0 S = .ok (.loc n) S' ∧ S'[n]? = some (.lst (List.replicate k d0)) ∧ I k S' := by
  have go : ∀ (j i : Nat) (S : Sto), i + j = k → I i S → S[n]? = some (.lst (List.replicate i d0)) → ∃ S', lcGo src g t e n r j i S = .ok (.loc n) S' ∧ S'[n]? = some (.lst (List.replicate k d0)) ∧ I k S' := by
    intro j
    induction j with
    | zero =>
      intro i S hi hI0 hS
      have : i = k := by omega
      subst this
      refine ⟨S, ?_, hS, hI0⟩
      unfold lcGo
      rw [hn i S hI0, if_neg (Nat.lt_irrefl _)]
    | succ j ih =>
      intro i S hi hI0 hS
      have hlt : i < k := by omega
      obtain ⟨r', S', h1, h2, h3, h4, h5⟩ := h i S hlt hI0
      have hp : S'[n]? = some (.lst (List.replicate i d0)) := h4.trans hS
      unfold lcGo
      rw [hn i S hI0, if_pos hlt]
      simp only [h1, h2, h3]
      rw [push_at _ hp (by rw [List.length_replicate]; omega)]
      refine ih (i + 1) _ (by omega) (hI _ _ _ h5) ?_
      rw [List.getElem?_set_self (List.getElem?_eq_some_iff.mp hp).1, List.replicate_succ']
  exact go k 0 S (by omega) h0 hS
/-- a for, by an invariant; each turn ends by going on -/
theorem for_inv {src : Src} (k : Nat) (it : Nat → D) {g : Tg} {b : Env → Sto → Out} (I : Nat → Env → Sto → Prop) (hn : ∀ i r S, I i r S → nextD src i S = some (if i < k then some (it i) else none))
    (h : ∀ i r S, i < k → I i r S → ∃ r1 S1 r2 S2, g (it i) r S = .ok r1 S1 ∧ (b r1 S1 = .nx r2 S2 ∨ b r1 S1 = .ct r2 S2) ∧ I (i + 1) r2 S2) {r : Env} {S : Sto} (h0 : I 0 r S) :
    ∃ r' S', forGo src g b k 0 r S = .nx r' S' ∧ I k r' S' := by
  have go : ∀ (j i : Nat) (r : Env) (S : Sto), i + j = k → I i r S → ∃ r' S', forGo src g b j i r S = .nx r' S' ∧ I k r' S' := by
    intro j
    induction j with
    | zero =>
      intro i r S hi hI
      have : i = k := by omega
      subst this
      refine ⟨r, S, ?_, hI⟩
      unfold forGo
      rw [hn i r S hI, if_neg (Nat.lt_irrefl _)]
    | succ j ih =>
      intro i r S hi hI
      have hlt : i < k := by omega
      obtain ⟨r1, S1, r2, S2, h1, h2, h3⟩ := h i r S hlt hI
      unfold forGo
      rw [hn i r S hI, if_pos hlt]
      simp only [h1]
      rcases h2 with h2 | h2
      · simp only [h2]
        exact ih (i + 1) r2 S2 (by omega) h3
      · simp only [h2]
        exact ih (i + 1) r2 S2 (by omega) h3
  exact go k 0 r S (by omega) h0
theorem sFor_inv {m : Env → M Src} {src : Src} (k : Nat) (it : Nat → D) {g : Tg} {b : Env → Sto → Out} (I : Nat → Env → Sto → Prop) {r : Env} {S S0 : Sto} (hm : m r S = .ok src S0) (ht : turns src S0 = k) (hn : ∀ i r S, I i r S → nextD src i S = some (if i < k then some (it i) else none))
    (h : ∀ i r S, i < k → I i r S → ∃ r1 S1 r2 S2, g (it i) r S = .ok r1 S1 ∧ (b r1 S1 = .nx r2 S2 ∨ b r1 S1 = .ct r2 S2) ∧ I (i + 1) r2 S2) (h0 : I 0 r S0) :
    ∃ r' S', sFor m g b r S = .nx r' S' ∧ I k r' S' := by
  unfold sFor
  rw [bndO_ap, hm, oK_ok, ht]
  exact for_inv k it I hn h h0
theorem next_rng (lo : Int) (k i : Nat) (S : Sto) : nextD (.rng lo k) i S = some (if i < k then some (.int (lo + i)) else none) := id rfl
theorem toB_rep (k : Nat) (b : Bool) : toB (List.replicate k (.bl b)) = some (List.replicate k b) := by
  induction k with
  | zero => rfl
  | succ k ih =>
    rw [List.replicate_succ, List.replicate_succ]
    unfold toB
    rw [ih]
    rfl
theorem all_rep {n k : Nat} {S : Sto} (h : S[n]? = some (.lst (List.replicate k (.bl true)))) : allD [.loc n] S = .ok (.bl true) S := by
  unfold allD
  simp only [h, toB_rep]
  have : (List.replicate k true).all id = true := by
    rw [List.all_eq_true]
    intro b hb
    exact (List.mem_replicate.mp hb).2
  rw [this]
theorem toB_map {α : Type} (f : α → Bool) : ∀ xs : List α, toB (xs.map fun x => .bl (f x)) = some (xs.map f)
  | [] => rfl
  | x :: xs => by
    show (toB (xs.map fun x => .bl (f x))).map (f x :: ·) = _
    rw [toB_map f xs]
    rfl
theorem all_map {α : Type} {n : Nat} {S : Sto} (f : α → Bool) (xs : List α) (h : S[n]? = some (.lst (xs.map fun x => .bl (f x)))) : allD [.loc n] S = .ok (.bl (xs.all f)) S := by
  unfold allD
  simp only [h, toB_map, List.all_map]
  rfl
/-! lists grown, ranges -/
def kLM (f : D → List D → M D) (ms : Env → M (List D)) (r : Env) (x : D) : M D := fun S => if (lstAt S x).isSome = true then bnd (ms r) (f x) S else .bad
theorem mLM_ap (f : D → List D → M D) (o : Env → M D) (ms : Env → M (List D)) (r : Env) (S : Sto) : mLM f o ms r S = bK (o r S) (kLM f ms r) := id rfl
theorem lstAt_l {S : Sto} {n : Nat} {ds : List D} (h : S[n]? = some (.lst ds)) : lstAt S (.loc n) = some (n, ds) := by
  unfold lstAt
  simp only [h]
theorem kLM_l {f : D → List D → M D} {ms : Env → M (List D)} {r : Env} {S : Sto} {n : Nat} {ds : List D} (h : S[n]? = some (.lst ds)) : kLM f ms r (.loc n) S = bK (ms r S) (f (.loc n)) := by
  unfold kLM
  rw [lstAt_l h]
  rfl
theorem app_l {S : Sto} {n : Nat} {ds : List D} (d : D) (h : S[n]? = some (.lst ds)) (hz : ds.length < sizeLine) : appD (.loc n) [d] S = .ok .non (S.set n (.lst (ds ++ [d]))) := by
  unfold appD
  rw [lstAt_l h]
  simp only [hz, if_true]
theorem ext_l {S : Sto} {n m : Nat} {ds es : List D} (h : S[n]? = some (.lst ds)) (h2 : S[m]? = some (.lst es)) (hz : ds.length + es.length ≤ sizeLine) : extD (.loc n) [.loc m] S = .ok .non (S.set n (.lst (ds ++ es))) := by
  unfold extD
  rw [lstAt_l h]
  simp only [lstAt_l h2, hz, if_true]
theorem mRng1_ap (ms : Env → M (List D)) (r : Env) (S : Sto) : mRng1 ms r S = bK (ms r S) rngOf1 := id rfl
theorem mRng2_ap (ms : Env → M (List D)) (r : Env) (S : Sto) : mRng2 ms r S = bK (ms r S) rngOf2 := id rfl
theorem mSrc_ap (m : Env → M D) (r : Env) (S : Sto) : mSrc m r S = bK (m r S) srcOf := id rfl
theorem rngOk_i {j : Int} (h1 : -4611686018427387904 ≤ j) (h2 : j < 4611686018427387904) : rngOk j = true := by
  unfold rngOk
  rw [decide_eq_true (show -(2 ^ 62) ≤ j by omega), decide_eq_true (show j < 2 ^ 62 by omega)]
  rfl
theorem rng1_i {j : Int} (h1 : -4611686018427387904 ≤ j) (h2 : j < 4611686018427387904) (S : Sto) : rngOf1 [.int j] S = .ok (.rng 0 j.toNat) S := by
  show (if rngOk j = true then ret (Src.rng 0 j.toNat) else fail) S = _
  rw [if_pos (rngOk_i h1 h2)]
  rfl
theorem rng2_i {i j : Int} (h3 : -4611686018427387904 ≤ i) (h4 : i < 4611686018427387904) (h1 : -4611686018427387904 ≤ j) (h2 : j < 4611686018427387904) (S : Sto) : rngOf2 [.int i, .int j] S = .ok (.rng i (j - i).toNat) S := by
  show (if (rngOk i && rngOk j) = true then ret (Src.rng i (j - i).toNat) else fail) S = _
  rw [rngOk_i h1 h2, rngOk_i h3 h4]
  rfl
theorem src_t (ds : List D) (S : Sto) : srcOf (.tup ds) S = .ok (.items ds) S := id rfl
theorem src_r (ds : List D) (S : Sto) : srcOf (.rls ds) S = .ok (.items ds) S := id rfl
theorem src_l {S : Sto} {n : Nat} {ds : List D} (h : S[n]? = some (.lst ds)) : srcOf (.loc n) S = .ok (.lst n) S := by
  unfold srcOf
  simp only [h]
def rngItems (lo : Int) (k : Nat) : List D := (List.range k).map fun (j : Nat) => D.int (lo + (j : Int))
theorem rngItems_len (lo : Int) (k : Nat) : (rngItems lo k).length = k := by simp [rngItems]
theorem next_items (lo : Int) (k i : Nat) (S : Sto) : nextD (.rng lo k) i S = some (rngItems lo k)[i]? := by
  rw [next_rng]
  unfold rngItems
  rw [List.getElem?_map]
  by_cases h : i < k
  · rw [if_pos h, List.getElem?_eq_getElem (by simpa using h), List.getElem_range]
    rfl
  · rw [if_neg h, List.getElem?_eq_none_iff.mpr (by rw [List.length_range]; omega)]
    rfl
theorem next_lst {S : Sto} {n i : Nat} {ds : List D} (h : S[n]? = some (.lst ds)) : nextD (.lst n) i S = some ds[i]? := by
  unfold nextD
  simp only [h]
theorem turns_lst {S : Sto} {n : Nat} {ds : List D} (h : S[n]? = some (.lst ds)) : turns (.lst n) S = ds.length := by
  unfold turns
  simp only [h]
end Fa
namespace Fa
open PySem PySem.Spec PyProof.Rows L2
/-! ### a run in a store of its own -/
mutual
def sft (k : Nat) : D → D
  | .loc n => .loc (k + n)
  | .tup ds => .tup (sfts k ds)
  | .ktp ds => .ktp (sfts k ds)
  | .ttp ds => .ttp (sfts k ds)
  | .rls ds => .rls (sfts k ds)
  | .exn C ns ds => .exn C ns (sfts k ds)
  | .non => .non
  | .bl b => .bl b
  | .int i => .int i
  | .str x => .str x
  | .adr a => .adr a
  | .ty n => .ty n
def sfts (k : Nat) : List D → List D
  | [] => []
  | d :: ds => sft k d :: sfts k ds
end
mutual
def noLoc : D → Bool
  | .loc _ => false
  | .tup ds => noLocs ds
  | .ktp ds => noLocs ds
  | .ttp ds => noLocs ds
  | .rls ds => noLocs ds
  | .exn _ _ ds => noLocs ds
  | .non | .bl _ | .int _ | .str _ | .adr _ | .ty _ => true
def noLocs : List D → Bool
  | [] => true
  | d :: ds => noLoc d && noLocs ds
end
def sftK {κ : Type} (k : Nat) (fs : List (κ × D)) : List (κ × D) := fs.map fun p => (p.1, sft k p.2)
def sftO (k : Nat) : MO → MO
  | .lst ds => .lst (sfts k ds)
  | .dct kvs => .dct (sftK k kvs)
  | .dcT kvs => .dcT (sftK k kvs)
  | .ins C fs => .ins C (sftK k fs)
  | .tab P q => .tab P q
def sftE (k : Nat) (r : Env) : Env := r.map (Option.map (sft k))
def keepR (r : Env) : Env := r.map fun o => o.bind fun d => if noLoc d = true then some d else none
section
variable {K : PySem.W.Frag} {mu mu2 : List Addr} {H H2 : Hp}
mutual
theorem rep_sft : ∀ {v : V} {d : D}, Rep K mu2 H2 v d → Rep K (mu ++ mu2) H2 v (sft mu.length d)
  | _, _, .non => .non
  | _, _, .bl b => .bl b
  | _, _, .int i => .int i
  | _, _, .str x => .str x
  | _, _, .ty n => .ty n
  | _, _, .adr a => .adr a
  | _, _, .loc h => .loc (by rw [List.getElem?_append_right (Nat.le_add_right _ _), Nat.add_sub_cancel_left]; exact h)
  | _, _, .tup hd h r => .tup hd h (reps_sft r)
  | _, _, .ktp h r => .ktp h (reps_sft r)
  | _, _, .ttp h r => .ttp h (reps_sft r)
  | _, _, .rls h r => .rls h (reps_sft r)
  | _, _, .exn h0 h1 h2 h3 h4 h5 r => .exn h0 h1 h2 h3 h4 h5 (reps_sft r)
theorem reps_sft : ∀ {vs : List V} {ds : List D}, Reps K mu2 H2 vs ds → Reps K (mu ++ mu2) H2 vs (sfts mu.length ds)
  | _, _, .nil => .nil
  | _, _, .cons r t => .cons (rep_sft r) (reps_sft t)
end
theorem kreps_sft {κ : Type} : ∀ {s : List (κ × V)} {r : List (κ × D)}, KReps K mu2 H2 s r → KReps K (mu ++ mu2) H2 s (sftK mu.length r)
  | _, _, .nil => .nil
  | _, _, .cons h t => .cons ⟨h.1, rep_sft h.2⟩ (kreps_sft t)
theorem erep_sft : ∀ {s : L2.St} {r : Env}, ERep K mu2 H2 s r → ERep K (mu ++ mu2) H2 s (sftE mu.length r)
  | _, _, .nil => .nil
  | v :: s, none :: r, .cons h t => .cons (by cases v <;> trivial) (erep_sft t)
  | some v :: s, some d :: r, .cons h t => .cons (show Rep K _ H2 v _ from rep_sft h) (erep_sft t)
theorem morep_sft {a : Addr} : ∀ {o : MO}, MoRep K mu2 H2 a o → MoRep K (mu ++ mu2) H2 a (sftO mu.length o)
  | .lst _, ⟨vs, h, r⟩ => ⟨vs, h, reps_sft r⟩
  | .dct _, ⟨vs, h, r⟩ => ⟨vs, h, kreps_sft r⟩
  | .dcT _, ⟨vs, h, r⟩ => ⟨vs, h, kreps_sft r⟩
  | .ins _ _, ⟨C, dx, vs, hc, h, r⟩ => ⟨C, dx, vs, hc, h, kreps_sft r⟩
  | .tab _ _, h => h
mutual
theorem rep_noLoc : ∀ {v : V} {d : D}, noLoc d = true → Rep K mu H v d → Rep K [] H v d
  | _, _, _, .non => .non
  | _, _, _, .bl b => .bl b
  | _, _, _, .int i => .int i
  | _, _, _, .str x => .str x
  | _, _, _, .ty n => .ty n
  | _, _, _, .adr a => .adr a
  | _, _, n, .loc h => by simp [noLoc] at n
  | _, _, n, .tup hd h r => .tup hd h (reps_noLoc (by simpa [noLoc] using n) r)
  | _, _, n, .ktp h r => .ktp h (reps_noLoc (by simpa [noLoc] using n) r)
  | _, _, n, .ttp h r => .ttp h (reps_noLoc (by simpa [noLoc] using n) r)
  | _, _, n, .rls h r => .rls h (reps_noLoc (by simpa [noLoc] using n) r)
  | _, _, n, .exn h0 h1 h2 h3 h4 h5 r => .exn h0 h1 h2 h3 h4 h5 (reps_noLoc (by simpa [noLoc] using n) r)
theorem reps_noLoc : ∀ {vs : List V} {ds : List D}, noLocs ds = true → Reps K mu H vs ds → Reps K [] H vs ds
  | _, _, _, .nil => .nil
  | _, _, n, .cons r t => by
    simp only [noLocs, Bool.and_eq_true] at n
    exact .cons (rep_noLoc n.1 r) (reps_noLoc n.2 t)
end
theorem erep_keep : ∀ {s : L2.St} {r : Env}, ERep K mu H s r → ERep K [] H s (keepR r)
  | _, _, .nil => .nil
  | v :: s, none :: r, .cons h t => .cons (by cases v <;> trivial) (erep_keep t)
  | some v :: s, some d :: r, .cons h t => by
    refine .cons ?_ (erep_keep t)
    by_cases n : noLoc d = true
    · simp only [Option.bind_some, if_pos n]
      exact rep_noLoc n h
    · simp only [Option.bind_some, if_neg n]
      trivial
theorem frame {S S2 : Sto} (hS : HRep K mu H S) (e : Ext [] H mu2 H2) (h2 : HRep K mu2 H2 S2) : Ext mu H (mu ++ mu2) H2 ∧ HRep K (mu ++ mu2) H2 (S ++ S2.map (sftO mu.length)) := by
  obtain ⟨l, e1, fr⟩ := e.pre
  rw [List.nil_append] at e1
  subst e1
  have all : ∀ a o, H a = some o → H2 a = some o := fun a o h => e.rest a o (by simp) h
  have E : Ext mu H (mu ++ mu2) H2 := ⟨⟨mu2, rfl, fr⟩, e.live, fun a o _ h => all a o h, fun a φ h => all a _ h, fun a φ h => all a _ h, fun a φ h => all a _ h, fun a o u h => all a _ h⟩
  refine ⟨E, by simp [hS.len, h2.len], ?_, fun n o a e1 e2 => ?_⟩
  · rw [List.nodup_append]
    refine ⟨hS.nd, h2.nd, fun x hx y hy z => ?_⟩
    subst z
    obtain ⟨n, en⟩ := List.getElem?_of_mem hx
    obtain ⟨o, _, q⟩ := hS.obj en
    obtain ⟨u, eu⟩ := q.some
    rw [fr x hy] at eu
    cases eu
  · by_cases hn : n < S.length
    · rw [List.getElem?_append_left hn] at e1
      rw [List.getElem?_append_left (by rw [← hS.len]; exact hn)] at e2
      have q := hS.ob n o a e1 e2
      obtain ⟨u, eu⟩ := q.some
      exact q.mono E (by rw [eu]; exact all a u eu)
    · have hn' : S.length ≤ n := Nat.le_of_not_lt hn
      rw [List.getElem?_append_right hn'] at e1
      rw [List.getElem?_append_right (by rw [← hS.len]; exact hn'), ← hS.len] at e2
      rw [List.getElem?_map] at e1
      obtain ⟨o2, e3, e4⟩ := map_some e1
      subst e4
      exact morep_sft (h2.ob _ o2 a e3 e2)
end
def sftX (k : Nat) (x : Exn) : Exn := { x with fs := sftK k x.fs }
def shR (S : Sto) : Res D → Res D
  | .ok d S' => .ok (sft S.length d) (S ++ S'.map (sftO S.length))
  | .err x S' => .err (sftX S.length x) (S ++ S'.map (sftO S.length))
  | .bad => .bad
def shO (S : Sto) : Out → Out
  | .nx r S' => .nx (sftE S.length r) (S ++ S'.map (sftO S.length))
  | .bk r S' => .bk (sftE S.length r) (S ++ S'.map (sftO S.length))
  | .ct r S' => .ct (sftE S.length r) (S ++ S'.map (sftO S.length))
  | .rt d S' => .rt (sft S.length d) (S ++ S'.map (sftO S.length))
  | .ex x r S' => .ex (sftX S.length x) (sftE S.length r) (S ++ S'.map (sftO S.length))
  | .bad => .bad
/-- the statements run on what of the names has no handle, in a store of their own -/
def frmS (m : Env → Sto → Out) : Env → Sto → Out := fun r S => shO S (m (keepR r) [])
/-- the same of a call -/
def frm (F : List D → M D) : List D → M D := fun ds S => if noLocs ds = true then shR S (F ds []) else F ds S
theorem hrep_nil {K : PySem.W.Frag} {H : Hp} : HRep K [] H [] := ⟨rfl, List.nodup_nil, fun n o b e => by simp at e⟩
theorem xrep_sft {K : PySem.W.Frag} {mu mu2 : List Addr} {H2 : Hp} {cls : Value} {dd : Option Addr} {x : Exn} (h : XRep K mu2 H2 cls dd x) : XRep K (mu ++ mu2) H2 cls dd (sftX mu.length x) := by
  obtain ⟨e, a, fs, h1, h2, h3⟩ := h
  exact ⟨e, a, fs, h1, h2, kreps_sft h3⟩
theorem sb_frame {X : Cx} {W : WX} {st : List Stmt} {m : Env → Sto → Out} (h : SB X W st m) : SB X W st (frmS m) := pssI h fun D σ H q => by
  obtain ⟨r, mu, S, hS, hE, hp⟩ := q
  refine ⟨keepR r, [], [], hrep_nil, erep_keep hE, ?_⟩
  unfold frmS at hp
  cases e : m (keepR r) [] with
  | nx r2 S2 =>
    rw [e] at hp
    intro mu2 H2 σ2 ex h2 he
    obtain ⟨E, h3⟩ := frame hS ex h2
    refine hp (mu ++ mu2) H2 σ2 E ?_ ?_ <;> rw [show S.length = mu.length from hS.len]
    · exact h3
    · exact erep_sft he
  | bk r2 S2 =>
    rw [e] at hp
    intro mu2 H2 σ2 ex h2 he
    obtain ⟨E, h3⟩ := frame hS ex h2
    refine hp (mu ++ mu2) H2 σ2 E ?_ ?_ <;> rw [show S.length = mu.length from hS.len]
    · exact h3
    · exact erep_sft he
  | ct r2 S2 =>
    rw [e] at hp
    intro mu2 H2 σ2 ex h2 he
    obtain ⟨E, h3⟩ := frame hS ex h2
    refine hp (mu ++ mu2) H2 σ2 E ?_ ?_ <;> rw [show S.length = mu.length from hS.len]
    · exact h3
    · exact erep_sft he
  | rt d S2 =>
    rw [e] at hp
    intro mu2 H2 v ex h2 rv
    obtain ⟨E, h3⟩ := frame hS ex h2
    refine hp (mu ++ mu2) H2 v E ?_ ?_ <;> rw [show S.length = mu.length from hS.len]
    · exact h3
    · exact rep_sft rv
  | ex x r2 S2 =>
    rw [e] at hp
    intro mu2 H2 σ2 cls dd ex h2 he hx
    obtain ⟨E, h3⟩ := frame hS ex h2
    refine hp (mu ++ mu2) H2 σ2 cls dd E ?_ ?_ ?_ <;> rw [show S.length = mu.length from hS.len]
    · exact h3
    · exact erep_sft he
    · exact xrep_sft hx
  | bad => rw [e] at hp; exact hp.elim
theorem prom_frm {K : PySem.W.Frag} {F : List D → M D} {vs : List V} {H : Hp} {Q : VK} {E : XK} (h : prom K (frm F) vs H Q E) : prom K F vs H Q E := by
  obtain ⟨ds, mu, S, hS, hr, hp⟩ := h
  unfold frm at hp
  by_cases n : noLocs ds = true
  · rw [if_pos n] at hp
    refine ⟨ds, [], [], hrep_nil, reps_noLoc n hr, ?_⟩
    cases e : F ds [] with
    | ok d S2 =>
      rw [e] at hp
      intro mu2 H2 ex h2 v rv
      obtain ⟨E, h3⟩ := frame hS ex h2
      refine hp (mu ++ mu2) H2 E ?_ v ?_ <;> rw [show S.length = mu.length from hS.len]
      · exact h3
      · exact rep_sft rv
    | err x S2 =>
      rw [e] at hp
      intro mu2 H2 cls dd ex h2 hx
      obtain ⟨E, h3⟩ := frame hS ex h2
      refine hp (mu ++ mu2) H2 cls dd E ?_ ?_ <;> rw [show S.length = mu.length from hS.len]
      · exact h3
      · exact xrep_sft hx
    | bad => rw [e] at hp; exact hp.elim
  · rw [if_neg n] at hp
    exact ⟨ds, mu, S, hS, hr, hp⟩
theorem fnG_frm {P : Program} {w : World} {K : PySem.W.Frag} {mg : Str → Option Value} {base : Heap} {k : Nat} {f : Addr} {fd : FuncData} {ps : List Str} {F : List D → M D} (G : FnG P w K mg base k f fd ps F) : FnG P w K mg base k f fd ps (frm F) :=
  fun A outer s H ar us vs Q E hr hg e0 hb rv hl hp => G A outer s H ar us vs Q E hr hg e0 hb rv hl (prom_frm hp)
theorem frm_arity {n : Nat} {F : List D → M D} (h : arity n F) : arity n (frm F) := fun ds S hl => by
  unfold frm
  by_cases z : noLocs ds = true
  · rw [if_pos z, h ds [] hl]
    rfl
  · rw [if_neg z, h ds S hl]
end Fa
namespace Fa
open PySem PySem.Spec PyProof.Rows L2
section
variable {K : PySem.W.Frag} {X : Cx}
/-! ### in, not in -/
def flat1 : D → Option V
  | .non => some .non
  | .bl b => some (.bl b)
  | .int i => some (.int i)
  | .str x => some (.str x)
  | _ => none
def flats : List D → Option (List V)
  | [] => some []
  | d :: ds => match flat1 d, flats ds with
    | some v, some vs => some (v :: vs)
    | _, _ => none
def itemsOf (S : Sto) : D → Option (List D)
  | .tup ds => some ds
  | .ktp ds => some ds
  | .rls ds => some ds
  | .loc n => match S[n]? with
    | some (.lst ds) => some ds
    | _ => none
  | _ => none
theorem flat1_of {mu : List Addr} {H : Hp} {d : D} {v w : V} (r : Rep K mu H v d) (h : flat1 d = some w) : v = w ∧ flatV w = true := by
  cases d <;> cases h <;> cases r <;> exact ⟨rfl, rfl⟩
theorem flats_of {mu : List Addr} {H : Hp} : ∀ {ds : List D} {vs ws : List V}, Reps K mu H vs ds → flats ds = some ws → vs = ws ∧ ws.all flatV = true
  | [], _, ws, .nil, h => by
    cases h
    exact ⟨rfl, rfl⟩
  | d :: ds, v :: vs, ws, .cons r t, h => by
    unfold flats at h
    cases e1 : flat1 d with
    | none => rw [e1] at h; cases h
    | some a =>
      cases e2 : flats ds with
      | none => rw [e1, e2] at h; cases h
      | some as =>
        rw [e1, e2] at h
        cases h
        obtain ⟨rfl, f1⟩ := flat1_of r e1
        obtain ⟨rfl, f2⟩ := flats_of t e2
        exact ⟨rfl, by rw [List.all_cons, f1, f2]; rfl⟩
theorem itemsOf_of {mu : List Addr} {H : Hp} {S : Sto} {d : D} {v : V} {ds : List D} (hS : HRep K mu H S) (r : Rep K mu H v d) (h : itemsOf S d = some ds) : ∃ p vs, v = .ref p ∧ (SqL K H p vs ∨ SqT K H p vs) ∧ Reps K mu H vs ds := by
  cases r with
  | tup _ hq hr => cases h; exact ⟨_, _, rfl, .inr (sqT_t hq), hr⟩
  | ktp hq hr => cases h; exact ⟨_, _, rfl, .inr (sqT_k hq), hr⟩
  | rls hq hr => cases h; exact ⟨_, _, rfl, .inl hq.sqL, hr⟩
  | loc hn =>
    obtain ⟨o, ho, q⟩ := hS.obj hn
    unfold itemsOf at h
    simp only [ho] at h
    cases o with
    | lst es =>
      cases h
      obtain ⟨vs, h1, hr⟩ := q
      exact ⟨_, _, rfl, .inl (.inl (.inl h1)), hr⟩
    | _ => cases h
  | _ => cases h
def sign1 (x : Str) : Option Nat := match x.cps.toList with
  | [c] => some c
  | _ => none
theorem sign1_of {x : Str} {c : Nat} (h : sign1 x = some c) : x = ⟨#[c]⟩ := by
  obtain ⟨⟨l⟩⟩ := x
  unfold sign1 at h
  split at h
  · rename_i e
    cases h
    have e' : l = [c] := e
    subst e'
    rfl
  · cases h
def inD (neg : Bool) : D → D → M D := fun x y S => match x, y with
  | .str i, .str j => match sign1 i with
    | some c => .ok (.bl (if neg then !decide (c ∈ j.cps.toList) else decide (c ∈ j.cps.toList))) S
    | none => .ok (.bl (if neg then !(!(Builtin.Str.occurrences j i 0 j.length 1).isEmpty) else !(Builtin.Str.occurrences j i 0 j.length 1).isEmpty)) S
  | x, y => match flat1 x, (itemsOf S y).bind flats with
    | some v, some vs => .ok (.bl (if neg then !inV v vs else inV v vs)) S
    | _, _ => match snap S 40 x, snap S 40 y with
      | some d, some (.list ds) => if (SeqAt.shaped d && SeqAt.shaped (.list ds)) = true then .ok (.bl (if neg then !(ds.any fun z => PyData.eqv z d) else ds.any fun z => PyData.eqv z d)) S else .bad
      | _, _ => .bad
def rInA (K : PySem.W.Frag) : R2 := fun x y H Q => (∃ (c : Nat) (z : Str), x = .str ⟨#[c]⟩ ∧ y = .str z ∧ Q (.bl (decide (c ∈ z.cps.toList))) H) ∨ (∃ i j, x = .str i ∧ y = .str j ∧ Q (.bl (!(Builtin.Str.occurrences j i 0 j.length 1).isEmpty)) H) ∨ rIn K false x y H Q ∨ rInD K x y H Q
def rNotInA (K : PySem.W.Frag) : R2 := fun x y H Q => (∃ (c : Nat) (z : Str), x = .str ⟨#[c]⟩ ∧ y = .str z ∧ Q (.bl (!decide (c ∈ z.cps.toList))) H) ∨ (∃ i j, x = .str i ∧ y = .str j ∧ Q (.bl (!(!(Builtin.Str.occurrences j i 0 j.length 1).isEmpty))) H) ∨ rIn K true x y H Q ∨ rNotInD K x y H Q
theorem op_inA (hu : X.A.units + 65 < cLine) : OpR X (compareOp .In) (rInA X.K) := op_in_sign.or (op_in_str.or (op_in_seq.or (op_inD hu)))
theorem op_notInA (hu : X.A.units + 65 < cLine) : OpR X (compareOp .NotIn) (rNotInA X.K) := op_notIn_sign.or (op_notIn_str.or (op_notIn_seq.or (op_notInD hu)))
theorem in_deep {W : WX} {σ : L2.St} {mu : List Addr} {H : Hp} {S : Sto} {x y : D} {v w : V} {Q : VK} {neg : Bool} (hS : HRep K mu H S) (rx : Rep K mu H v x) (ry : Rep K mu H w y)
    (hp : Post K W σ mu H (fun d _ mu' H' => ∀ u, Rep K mu' H' u d → Q u H') (match flat1 x, (itemsOf S y).bind flats with
    | some v, some vs => Res.ok (D.bl (if neg then !inV v vs else inV v vs)) S
    | _, _ => match snap S 40 x, snap S 40 y with
      | some d, some (.list ds) => if (SeqAt.shaped d && SeqAt.shaped (.list ds)) = true then .ok (.bl (if neg then !(ds.any fun z => PyData.eqv z d) else ds.any fun z => PyData.eqv z d)) S else .bad
      | _, _ => .bad)) : rIn K neg v w H Q ∨ ∃ d ds, Dp K H v d ∧ Dp K H w (.list ds) ∧ SeqAt.shaped d = true ∧ SeqAt.shaped (.list ds) = true ∧ Q (.bl (if neg then !(ds.any fun z => PyData.eqv z d) else ds.any fun z => PyData.eqv z d)) H := by
  have deep : Post K W σ mu H (fun d _ mu' H' => ∀ u, Rep K mu' H' u d → Q u H') (match snap S 40 x, snap S 40 y with
      | some d, some (.list ds) => if (SeqAt.shaped d && SeqAt.shaped (.list ds)) = true then .ok (.bl (if neg then !(ds.any fun z => PyData.eqv z d) else ds.any fun z => PyData.eqv z d)) S else .bad
      | _, _ => .bad) → ∃ d ds, Dp K H v d ∧ Dp K H w (.list ds) ∧ SeqAt.shaped d = true ∧ SeqAt.shaped (.list ds) = true ∧ Q (.bl (if neg then !(ds.any fun z => PyData.eqv z d) else ds.any fun z => PyData.eqv z d)) H := fun hp => by
    split at hp
    · rename_i d ds e1 e2
      by_cases h : (SeqAt.shaped d && SeqAt.shaped (.list ds)) = true
      · rw [if_pos h] at hp
        rw [Bool.and_eq_true] at h
        exact ⟨d, ds, snap_dp hS _ _ _ _ e1 rx, snap_dp hS _ _ _ _ e2 ry, h.1, h.2, hp mu H Ext.refl hS _ (.bl _)⟩
      · rw [if_neg h] at hp
        exact hp.elim
    · exact hp.elim
  split at hp
  · rename_i a as e1 e2
    obtain ⟨ds, e3, e4⟩ := Option.bind_eq_some_iff.mp e2
    obtain ⟨rfl, f1⟩ := flat1_of rx e1
    obtain ⟨p, vs, rfl, hq, hr⟩ := itemsOf_of hS ry e3
    obtain ⟨rfl, f2⟩ := flats_of hr e4
    exact .inl ⟨p, _, rfl, hq, f1, f2, hp mu H Ext.refl hS _ (.bl _)⟩
  · exact .inr (deep hp)
theorem o_in : Op2 K (rInA K) (inD false) := by
  intro W σ mu H S x y v w Q hS rx ry hp
  unfold inD at hp
  split at hp
  · rename_i i j
    cases rx
    cases ry
    cases e : sign1 i with
    | some c =>
      rw [e] at hp
      obtain rfl := sign1_of e
      exact .inl ⟨c, j, rfl, rfl, hp mu H Ext.refl hS _ (.bl _)⟩
    | none =>
      rw [e] at hp
      exact .inr (.inl ⟨i, j, rfl, rfl, hp mu H Ext.refl hS _ (.bl _)⟩)
  · exact .inr (.inr (in_deep (neg := false) hS rx ry hp))
theorem o_notIn : Op2 K (rNotInA K) (inD true) := by
  intro W σ mu H S x y v w Q hS rx ry hp
  unfold inD at hp
  split at hp
  · rename_i i j
    cases rx
    cases ry
    cases e : sign1 i with
    | some c =>
      rw [e] at hp
      obtain rfl := sign1_of e
      exact .inl ⟨c, j, rfl, rfl, hp mu H Ext.refl hS _ (.bl _)⟩
    | none =>
      rw [e] at hp
      exact .inr (.inl ⟨i, j, rfl, rfl, hp mu H Ext.refl hS _ (.bl _)⟩)
  · exact .inr (.inr (in_deep (neg := true) hS rx ry hp))
/-! ### is, is not of truths -/
def isB (neg : Bool) : D → D → M D
  | .bl a, .bl b => ret (.bl (if neg then !decide (a = b) else decide (a = b)))
  | _, _ => fail
theorem o_isB : Op2 K rIsB (isB false) := by
  intro W σ mu H S x y v w Q hS rx ry hp
  cases rx <;> cases ry <;> first | exact hp.elim | exact ⟨_, _, rfl, rfl, hp mu H Ext.refl hS _ (.bl _)⟩
theorem o_notB : Op2 K rNotB (isB true) := by
  intro W σ mu H S x y v w Q hS rx ry hp
  cases rx <;> cases ry <;> first | exact hp.elim | exact ⟨_, _, rfl, rfl, hp mu H Ext.refl hS _ (.bl _)⟩
/-! ### a < b < c -/
def mChain (f g : D → D → M D) (a b c : Env → M D) : Env → M D := fun r => bnd (a r) fun x => bnd (b r) fun y => bnd (f x y) fun z => bnd (isBl z) fun k => if k = true then bnd (c r) fun w => g y w else ret (.bl false)
theorem chain_go {W : WX} {f g : D → D → M D} {r r' : R2} {ma mb mc : Env → M D} (ho : Op2 X.K r f) (ho' : Op2 X.K r' g) {σ : L2.St} {H : Hp} {Q : VK} (q : rdE X.K W (mChain f g ma mb mc) σ H Q) : tChain r r' (rdE X.K W ma) (rdE X.K W mb) (rdE X.K W mc) σ H Q := by
  obtain ⟨r, mu, S, hS, he, hp⟩ := q
  refine ⟨r, mu, S, hS, he, hp.bnd.imp fun x S1 mu1 H1 ex hS1 q1 v rv => ?_⟩
  refine ⟨r, mu1, S1, hS1, he.mono ex, q1.bnd.imp fun y S2 mu2 H2 ex2 hS2 q2 w rw => ?_⟩
  refine ho W σ mu2 H2 S2 x y v w _ hS2 (rv.mono ex2) rw (q2.bnd.imp fun z S3 mu3 H3 ex3 hS3 q3 u ru => ?_)
  cases ru with
  | bl k =>
    refine ⟨k, rfl, ?_⟩
    have q4 : Post X.K W σ mu3 H3 _ ((if k = true then bnd (mc r) fun w => g y w else ret (.bl false)) S3) := q3.bnd mu3 H3 Ext.refl hS3
    cases k with
    | true =>
      rw [if_pos rfl] at q4
      rw [if_pos rfl]
      refine ⟨r, mu3, S3, hS3, ((he.mono ex).mono ex2).mono ex3, q4.bnd.imp fun c S4 mu4 H4 ex4 hS4 q5 t rt => ?_⟩
      exact ho' W σ mu4 H4 S4 y c w t Q hS4 ((rw.mono ex3).mono ex4) rt q5
    | false =>
      rw [if_neg Bool.false_ne_true] at q4
      rw [if_neg Bool.false_ne_true]
      exact q4 mu3 H3 Ext.refl hS3 _ (.bl _)
  | _ => exact (q3.bnd).elim
theorem se_chain {W : WX} {a b c : Expr} {pos : Pos} {op op' : CmpOp} {f g : D → D → M D} {r r' : R2} {ma mb mc : Env → M D} (h : OpR X (compareOp op) r) (ho : Op2 X.K r f) (h' : OpR X (compareOp op') r') (ho' : Op2 X.K r' g) (ha : SE X W a ma) (hb : SE X W b mb) (hc : SE X W c mc)
    (hm : lastMarks [op, op'] [b, c] = false := by with_unfolding_all rfl) : SE X W (.Compare a [op, op'] [b, c] pos) (mChain f g ma mb mc) := peI (pe_chain h h' ha hb hc hm) fun σ H Q q => chain_go ho ho' q
theorem st_chain {W : WX} {a b c : Expr} {pos : Pos} {op op' : CmpOp} {f g : D → D → M D} {r r' : R2} {ma mb mc : Env → M D} (h : OpR X (compareOp op) r) (ho : Op2 X.K r f) (h' : OpR X (compareOp op') r') (ho' : Op2 X.K r' g) (ha : SE X W a ma) (hb : SE X W b mb) (hc : SE X W c mc)
    (hm : lastMarks [op, op'] [b, c] = false := by with_unfolding_all rfl) : ST X W (.Compare a [op, op'] [b, c] pos) (tOf (mChain f g ma mb mc)) := ptI (pt_chain h h' ha hb hc hm) fun σ H Q q => chain_go ho ho' (by
  obtain ⟨r, mu, S, hS, he, hp⟩ := q
  refine ⟨r, mu, S, hS, he, hp.bnd.imp fun d S1 mu1 H1 ex hS1 q1 v rv => ?_⟩
  cases rv <;> first | exact q1.elim | skip
  exact ⟨_, rfl, q1 mu1 H1 Ext.refl hS1⟩)
/-! ### slices -/
def cutD (xs : List D) (lo hi : Option Int) : List D := (xs.drop (HT.sIx xs.length 0 lo)).take (HT.sIx xs.length xs.length hi - HT.sIx xs.length 0 lo)
theorem cut_reps {mu : List Addr} {H : Hp} {vs : List V} {ds : List D} (lo hi : Option Int) (r : Reps K mu H vs ds) : Reps K mu H (cutV vs lo hi) (cutD ds lo hi) := by
  unfold cutV cutD
  rw [r.length]
  exact (r.drop _).take _
def slD : D → Option Int → Option Int → M D := fun x lo hi S => match x with
  | .tup ds => .ok (.tup (cutD ds lo hi)) S
  | .str z => if z.length ≤ sizeLine then .ok (.str (cutS z lo hi)) S else .bad
  | .rls ds => .ok (.loc S.length) (S ++ [.lst (cutD ds lo hi)])
  | .loc n => match S[n]? with
    | some (.lst ds) => .ok (.loc S.length) (S ++ [.lst (cutD ds lo hi)])
    | _ => .bad
  | _ => .bad
def rSlAll (K : PySem.W.Frag) : V → Option Int → Option Int → Hp → VK → Prop := fun x lo hi H Q => rSlF K x lo hi H Q ∨ (rSlS x lo hi H Q ∨ rSlL K x lo hi H Q)
theorem sl_all : SlR X (rSlAll X.K) := sl_tupF.or (sl_str.or sl_list)
theorem cut_whole {xs : List D} {lo hi : Option Int} (h1 : HT.sIx xs.length 0 lo = 0) (h2 : HT.sIx xs.length xs.length hi = xs.length) : cutD xs lo hi = xs := by
  unfold cutD
  rw [h1, h2]
  simp
def mSl (a : Env → M D) (lo hi : Env → M (Option Int)) : Env → M D := fun r => bnd (a r) fun x => bnd (lo r) fun l => bnd (hi r) fun u => slD x l u
def rdP (K : PySem.W.Frag) (W : WX) (m : Env → M (Option Int)) : TO := fun σ H Q => ∃ r mu S, HRep K mu H S ∧ ERep K mu H σ r ∧ Post K W σ mu H (fun o _ _ H' => Q o H') (m r S)
def mP0 : Env → M (Option Int) := fun _ => ret none
def intO : D → M (Option Int)
  | .int i => ret (some i)
  | _ => fail
def mP (a : Env → M D) : Env → M (Option Int) := fun r => bnd (a r) intO
abbrev SP (X : Cx) (W : WX) (e : Option Expr) (m : Env → M (Option Int)) : Prop := PO X e (rdP X.K W m)
theorem sp_none {W : WX} : SP X W none mP0 := ⟨fun p s σ H Q I q => po_none.run p s σ H Q I (by
  obtain ⟨r, mu, S, hS, he, hp⟩ := q
  exact hp mu H Ext.refl hS)⟩
theorem sp_some {W : WX} {e : Expr} {m : Env → M D} (h : SE X W e m) : SP X W (some e) (mP m) := ⟨fun p s σ H Q I q => (po_some h).run p s σ H Q I (by
  obtain ⟨r, mu, S, hS, he, hp⟩ := q
  refine ⟨r, mu, S, hS, he, hp.bnd.imp fun d S1 mu1 H1 ex hS1 q1 v rv => ?_⟩
  cases rv <;> first | exact q1.elim | skip
  exact ⟨_, rfl, q1 mu1 H1 Ext.refl hS1⟩)⟩
theorem se_slice {W : WX} {e : Expr} {lo hi : Option Expr} {m : Env → M D} {l u : Env → M (Option Int)} {p2 pos : Pos} (he : SE X W e m) (hl : SP X W lo l) (hu : SP X W hi u) : SE X W (.Subscript e (.Slice lo hi none p2) pos) (mSl m l u) := peI (pe_slice sl_all he hl hu) fun σ H Q q => by
  obtain ⟨r, mu, S, hS, he, hp⟩ := q
  refine ⟨r, mu, S, hS, he, hp.bnd.imp fun x S1 mu1 H1 ex hS1 q1 v rv => ?_⟩
  refine ⟨r, mu1, S1, hS1, he.mono ex, q1.bnd.imp fun a S2 mu2 H2 ex2 hS2 q2 => ?_⟩
  refine ⟨r, mu2, S2, hS2, (he.mono ex).mono ex2, q2.bnd.imp fun b S3 mu3 H3 ex3 hS3 q3 => ?_⟩
  have rv := (rv.mono ex2).mono ex3
  cases rv with
  | tup hd hq hr =>
    rename_i ad vs ds o
    refine .inl ⟨ad, vs, rfl, sqT_t hq, fun hw => ?_, fun hw p o0 hp0 hd0 => ?_⟩
    · rw [hr.length] at hw
      refine q3 mu3 H3 Ext.refl hS3 _ ?_
      rw [cut_whole hw.1 hw.2]
      exact .tup hd hq hr
    · exact q3 mu3 _ (ext_tup hp0) (hS3.tup hp0) _ (.tup hd0 upd_same ((cut_reps a b hr).mono (ext_tup hp0)))
  | str z =>
    have q4 : Post X.K W σ mu3 H3 _ (if z.length ≤ sizeLine then Res.ok (D.str (cutS z a b)) S3 else .bad) := q3
    by_cases h : z.length ≤ sizeLine
    · rw [if_pos h] at q4
      exact .inr (.inl ⟨z, rfl, h, q4 mu3 H3 Ext.refl hS3 _ (.str _)⟩)
    · rw [if_neg h] at q4
      exact q4.elim
  | rls hq hr =>
    refine .inr (.inr ⟨_, _, rfl, hq.sqL, fun p hp0 => ?_⟩)
    refine q3 _ _ (ext_new hp0) (hS3.new (o := .lst _) hp0 ⟨_, upd_same, (cut_reps a b hr).mono (ext_new hp0)⟩) _ (.loc ?_)
    rw [hS3.len]
    simp
  | loc hn =>
    obtain ⟨o, ho, qq⟩ := hS3.obj hn
    unfold slD at q3
    simp only [ho] at q3
    cases o with
    | lst ds =>
      obtain ⟨vs, h1, hr⟩ := qq
      refine .inr (.inr ⟨_, _, rfl, .inl (.inl h1), fun p hp0 => ?_⟩)
      refine q3 _ _ (ext_new hp0) (hS3.new (o := .lst _) hp0 ⟨_, upd_same, (cut_reps a b hr).mono (ext_new hp0)⟩) _ (.loc ?_)
      rw [hS3.len]
      simp
    | _ => exact q3.elim
  | _ => exact q3.elim
end
end Fa
namespace Fa
open PySem PySem.Spec PyProof.Rows L2
section
variable {K : PySem.W.Frag} {X : Cx}
/-! ### tuple(x), list(x) -/
def tupleD : List D → M D
  | [x] => fun S => match x with
    | .tup ds => .ok (.tup ds) S
    | .ktp ds => .ok (.ktp ds) S
    | x => match itemsOf S x with
      | some ds => .ok (.tup ds) S
      | none => .bad
  | _ => fail
def listD : List D → M D
  | [x] => fun S => match itemsOf S x with
    | some ds => .ok (.loc S.length) (S ++ [.lst ds])
    | none => .bad
  | _ => fail
def rListOf (K : PySem.W.Frag) : List V → Hp → VK → Prop := fun xs H Q => ∃ p ys, xs = [.ref p] ∧ (SqL K H p ys ∨ SqT K H p ys) ∧ ∀ l, H l = none → Q (.ref l) (upd H l (.lst ys))
theorem c_tuple : CallR X (.type "tuple") (rTupleF X.K) := call_tupleF
theorem c_list : CallR X (.type "list") (rListOf X.K) := call_list_of
theorem o_tuple : OpN K (rTupleF K) tupleD := by
  intro W σ mu H S xs vs Q hS hr hp
  unfold tupleD at hp
  split at hp
  · rename_i x
    obtain ⟨v, rfl, rv⟩ := one_of hr
    cases rv with
    | tup hd hq h2 => exact ⟨_, _, rfl, .inr ⟨sqT_t hq, hp mu H Ext.refl hS _ (.tup hd hq h2)⟩⟩
    | ktp hq h2 => exact ⟨_, _, rfl, .inr ⟨sqT_k hq, hp mu H Ext.refl hS _ (.ktp hq h2)⟩⟩
    | rls hq h2 => exact ⟨_, _, rfl, .inl ⟨hq.sqL, fun l o hl hd => hp mu _ (ext_tup hl) (hS.tup hl) _ (.tup hd upd_same (h2.mono (ext_tup hl)))⟩⟩
    | loc hn =>
      obtain ⟨o, ho, q⟩ := hS.obj hn
      simp only [itemsOf, ho] at hp
      cases o with
      | lst ds =>
        obtain ⟨us, h1, hr⟩ := q
        exact ⟨_, _, rfl, .inl ⟨.inl (.inl h1), fun l o hl hd => hp mu _ (ext_tup hl) (hS.tup hl) _ (.tup hd upd_same (hr.mono (ext_tup hl)))⟩⟩
      | _ => exact hp.elim
    | _ => exact hp.elim
  · exact hp.elim
theorem o_list : OpN K (rListOf K) listD := by
  intro W σ mu H S xs vs Q hS hr hp
  unfold listD at hp
  split at hp
  · rename_i x
    obtain ⟨v, rfl, rv⟩ := one_of hr
    cases e : itemsOf S x with
    | none => rw [e] at hp; exact hp.elim
    | some ds =>
      rw [e] at hp
      obtain ⟨p, ys, rfl, hq, hr⟩ := itemsOf_of hS rv e
      refine ⟨p, ys, rfl, hq, fun l hl => ?_⟩
      refine hp _ _ (ext_new hl) (hS.new (o := .lst ds) hl ⟨_, upd_same, hr.mono (ext_new hl)⟩) _ (.loc ?_)
      rw [hS.len]
      simp
  · exact hp.elim
/-! ### tuple * int, int * int -/
def mulA : D → D → M D
  | .tup ds, .int k => if (!ds.isEmpty && decide (2 ≤ k) && decide (k ≤ 1000) && decide (ds.length ≤ 1000)) = true then ret (.tup (List.replicate k.toNat ds).flatten) else fail
  | x, y => mulD x y
theorem reps_rep {mu : List Addr} {H : Hp} {vs : List V} {ds : List D} (r : Reps K mu H vs ds) : ∀ n : Nat, Reps K mu H (List.replicate n vs).flatten (List.replicate n ds).flatten
  | 0 => .nil
  | n + 1 => by
    rw [List.replicate_succ, List.replicate_succ, List.flatten_cons, List.flatten_cons]
    exact r.append (reps_rep r n)
theorem o_mulA : Op2 K (fun x y H Q => rI CMul (fun i j => .int (i * j)) x y H Q ∨ rRepF K x y H Q) mulA := by
  intro W σ mu H S x y v w Q hS rx ry hp
  unfold mulA at hp
  split at hp
  · rename_i ds k
    cases ry
    cases rx with
    | tup _ hq hr =>
      by_cases h : (!ds.isEmpty && decide (2 ≤ k) && decide (k ≤ 1000) && decide (ds.length ≤ 1000)) = true
      · rw [if_pos h] at hp
        simp only [Bool.and_eq_true, decide_eq_true_eq, Bool.not_eq_true'] at h
        obtain ⟨⟨⟨h1, h2⟩, h3⟩, h4⟩ := h
        refine .inr ⟨_, k, _, rfl, rfl, sqT_t hq, fun z => ?_, h2, h3, by rw [hr.length]; exact h4, fun p o hp0 hd => ?_⟩
        · subst z
          cases hr
          simp at h1
        · exact hp mu _ (ext_tup hp0) (hS.tup hp0) _ (.tup hd upd_same ((reps_rep hr _).mono (ext_tup hp0)))
      · rw [if_neg h] at hp
        exact hp.elim
  · exact .inl (o_mul W σ mu H S x y v w Q hS rx ry hp)
theorem op_mulAll : OpR X (binaryOp .Mult) (fun x y H Q => rI CMul (fun i j => .int (i * j)) x y H Q ∨ rRepF X.K x y H Q) := op_mul.or op_repF
/-! ### a constant tuple's index -/
def strsOf : List D → Option (List Str)
  | [] => some []
  | .str x :: ds => (strsOf ds).map (x :: ·)
  | _ :: _ => none
def seek (z : Str) : List Str → Option Nat
  | [] => none
  | y :: ys => if y = z then some 0 else (seek z ys).map (· + 1)
theorem seek_of {z : Str} : ∀ {ys : List Str} {j : Nat}, seek z ys = some j → ys[j]? = some z ∧ ∀ m, m < j → ys[m]? ≠ some z
  | [], _, h => by cases h
  | y :: ys, j, h => by
    unfold seek at h
    by_cases e : y = z
    · rw [if_pos e] at h
      cases h
      subst e
      exact ⟨rfl, fun m hm => absurd hm (Nat.not_lt_zero m)⟩
    · rw [if_neg e] at h
      obtain ⟨j', e1, e2⟩ := map_some h
      subst e2
      obtain ⟨h1, h2⟩ := seek_of e1
      refine ⟨by simpa using h1, fun m hm => ?_⟩
      cases m with
      | zero => simpa using e
      | succ m => simpa using h2 m (by omega)
theorem strsOf_of {mu : List Addr} {H : Hp} : ∀ {ds : List D} {vs : List V} {ys : List Str}, strsOf ds = some ys → Reps K mu H vs ds → vs = ys.map V.str := by
  intro ds
  induction ds with
  | nil =>
    intro vs ys e r
    cases r
    cases e
    rfl
  | cons d ds ih =>
    intro vs ys e r
    cases r with
    | cons h t =>
      cases d with
      | str i =>
        cases h
        obtain ⟨ps, e1, e2⟩ := map_some e
        subst e2
        rw [ih e1 t]
        rfl
      | _ => cases e
def idxD : D → List D → M D := fun x xs => match x, xs with
  | .ktp ds, [.str z] => match (strsOf ds).bind (seek z) with
    | some j => ret (.int j)
    | none => fail
  | _, _ => fail
def mKM (f : D → List D → M D) (o : Env → M D) (a : Env → M (List D)) : Env → M D := fun r => bnd (o r) fun x => match x with
  | .ktp _ => bnd (a r) fun xs => f x xs
  | _ => fail
def rTIndex (K : PySem.W.Frag) : V → List V → Hp → VK → Prop := fun x xs H Q => ∃ p, ∃ ys : List Str, ∃ z j, x = .ref p ∧ xs = [.str z] ∧ SqT K H p (ys.map V.str) ∧ ys[j]? = some z ∧ (∀ m, m < j → ys[m]? ≠ some z) ∧ Q (.int (j : Nat)) H
theorem o_idx : OpM K (rTIndex K) idxD := by
  intro W σ mu H S x xs v vs Q hS rv rs hp
  unfold idxD at hp
  split at hp
  · rename_i ds z
    obtain ⟨w, rfl, rw⟩ := one_of rs
    cases rw
    cases rv with
    | ktp hq hr =>
      cases e : (strsOf ds).bind (seek z) with
      | none => rw [e] at hp; exact hp.elim
      | some j =>
        rw [e] at hp
        obtain ⟨ys, e1, e2⟩ := Option.bind_eq_some_iff.mp e
        obtain ⟨h1, h2⟩ := seek_of e2
        exact ⟨_, ys, z, j, rfl, rfl, by rw [← strsOf_of e1 hr]; exact sqT_k hq, h1, h2, hp mu H Ext.refl hS _ (.int _)⟩
  · exact hp.elim
theorem se_km {W : WX} {name : Str} {r : V → List V → Hp → VK → Prop} {f : D → List D → M D} {o e : Expr} {es : List Expr} {mo : Env → M D} {ms : Env → M (List D)} {pos apos : Pos} (hf : OpM X.K r f) (ho : SE X W o mo) (ha : SA X W (e :: es) ms)
    (base : ∀ {to : TE} {t : TA}, PE X o to → PA X (e :: es) t → PE X (.Call (.Attribute o name apos) (e :: es) [] pos) (tBM X.K "tuple" r to t)) : SE X W (.Call (.Attribute o name apos) (e :: es) [] pos) (mKM f mo ms) := peI (base ho ha) fun σ H Q q => by
  obtain ⟨r, mu, S, hS, he, hp⟩ := q
  refine ⟨r, mu, S, hS, he, hp.bnd.imp fun x S1 mu1 H1 ex hS1 q1 v rv => ?_⟩
  cases x with
  | ktp ds =>
    have q2 : Post X.K W σ mu1 H1 _ (bnd (ms r) (fun xs => f (.ktp ds) xs) S1) := q1
    cases rv with
    | ktp hq hr =>
      obtain ⟨o, its, n, h1, h2, h3, _⟩ := id hq
      refine ⟨.inr (.inl ⟨rfl, o, h1, h2, h3⟩), r, mu1, S1, hS1, he.mono ex, q2.bnd.imp fun y S2 mu2 H2 ex2 hS2 q3 w rw => ?_⟩
      exact hf W σ mu2 H2 S2 _ _ _ _ Q hS2 (.ktp hq (hr.mono ex2)) rw q3
  | _ => exact q1.elim
/-! ### a constant dict's get -/
def EntK : List DictEntry → List (Str × V) → Prop
  | [], [] => True
  | e :: es, p :: ps => (∃ t, e.key = .str p.1 t) ∧ RelV p.2 e.val ∧ EntK es ps
  | _, _ => False
structure KD (K : PySem.W.Frag) (w : World) (d : Addr) (kvs : List (Str × V)) : Prop where
  ex : ∃ es n, KDict K w d es n ∧ EntK es.toList kvs
theorem entK_find {z : Str} : ∀ {es : List DictEntry} {ps : List (Str × V)}, EntK es ps → RelO (ps.lookup z) ((es.find? fun e => Value.isStrOf z e.key).map (·.val))
  | [], [], _ => True.intro
  | e :: es, p :: ps, h => by
    obtain ⟨⟨t, h1⟩, h2, h3⟩ := h
    rw [List.lookup_cons, List.find?_cons, h1]
    by_cases q : z = p.1
    · have e1 : (z == p.1) = true := by simpa using q
      have e2 : Value.isStrOf z (Value.str p.1 t) = true := by
        subst q
        simp [Value.isStrOf]
      rw [e1, e2]
      exact h2
    · have e1 : (z == p.1) = false := by simpa using q
      have e2 : Value.isStrOf z (Value.str p.1 t) = false := by
        simp [Value.isStrOf]
        exact fun y => q y.symm
      rw [e1, e2]
      exact entK_find h3
def kget (kvs : List (Str × D)) : List D → M D
  | [.str z, d] => ret ((kvs.lookup z).getD d)
  | _ => fail
/-- the constants' values as data -/
def KFlat : List (Str × V) → List (Str × D) → Prop := Paired fun p q => p.1 = q.1 ∧ ∀ K mu H, Rep K mu H p.2 q.2
theorem kflat_lookup {z : Str} : ∀ {ps : List (Str × V)} {ds : List (Str × D)}, KFlat ps ds → (ps.lookup z = none ∧ ds.lookup z = none) ∨ ∃ v d, ps.lookup z = some v ∧ ds.lookup z = some d ∧ ∀ K mu H, Rep K mu H v d
  | [], [], .nil => .inl ⟨rfl, rfl⟩
  | (a, v) :: ps, (b, d) :: ds, .cons h t => by
    obtain ⟨h1, h2⟩ := h
    have h1 : a = b := h1
    subst h1
    rw [List.lookup_cons, List.lookup_cons]
    cases e : z == a with
    | true => exact .inr ⟨v, d, rfl, rfl, h2⟩
    | false => exact kflat_lookup t
theorem se_kget {W : WX} {x : Str} {p apos cpos : Pos} {e f : Expr} {me mf : Env → M D} {a : Addr} {ps : List (Str × V)} {kvs : List (Str × D)} (hg : Gl X x) (hm : X.mg x = some (.ref a)) (kd : KD X.K X.w a ps) (kf : KFlat ps kvs) (he : SE X W e me) (hf : SE X W f mf)
    (m : M2 X (.Name x p) "get" apos e f cpos) (hdb : (x == ("__debug__" : Str)) = false := by decide) : SE X W (.Call (.Attribute (.Name x p) "get" apos) [e, f] [] cpos) (mA (kget kvs) (mCons me (mCons mf mNil))) := by
  constructor
  intro pins s σ H Q I q
  obtain ⟨r, mu, S, hS, hE, hp⟩ := q
  obtain ⟨es, n, kD, ek⟩ := kd.ex
  refine wpAny_Call_method m.base m.few m.line PySem.F.plainAttrs_dict PySem.F.slot_dict_get PySem.F.type_dict_get (ld_glob I hg hm ?_ hdb)
  refine ⟨kd_type kD I, fun b z => ?_, ?_⟩
  · cases z
    exact ⟨_, I.kIn _ _ kD.at_, rfl⟩
  rw [m.trees]
  have hp1 := (show Post X.K W σ mu H _ (bnd (mCons me (mCons mf mNil) r) (kget kvs) S) from hp).bnd
  have hp2 := (show Post X.K W σ mu H _ (bnd (me r) (fun x => bnd (mCons mf mNil r) fun xs => ret (x :: xs)) S) from hp1).bnd
  refine Calls.callWith_builtin rfl (Calls.evalArgs_plain (Calls.spliced_cons (thn (he.run pins s σ H (fun v H1 => ∃ mu1 S1 d, HRep X.K mu1 H1 S1 ∧ Ext mu H mu1 H1 ∧ Rep X.K mu1 H1 v d ∧ Post X.K W σ mu1 H1 (fun ds S' mu' H' => Post X.K W σ mu' H' (fun d _ mu' H' => ∀ v, Rep X.K mu' H' v d → Q v H') (kget kvs ds S')) (bnd (mCons mf mNil r) (fun xs => ret (d :: xs)) S1)) I ⟨r, mu, S, hS, hE, hp2.imp fun d S1 mu1 H1 ex hS1 q1 v rv => ⟨mu1, S1, d, hS1, ex, rv, q1⟩⟩) fun iv s2 z => ?_)))
  obtain ⟨v, H1, I1, rv, mu1, S1, d, hS1, ex1, rd, q1⟩ := z
  have q2 := (show Post X.K W σ mu1 H1 _ (bnd (mf r) (fun x => bnd (mNil r) fun xs => ret (x :: xs)) S1) from q1.bnd).bnd
  refine Calls.spliced_cons (thn (hf.run pins s2 σ H1 (fun v2 H2 => ∃ mu2 S2 d2, HRep X.K mu2 H2 S2 ∧ Ext mu1 H1 mu2 H2 ∧ Rep X.K mu2 H2 v2 d2 ∧ Post X.K W σ mu2 H2 (fun d _ mu' H' => ∀ v, Rep X.K mu' H' v d → Q v H') (kget kvs [d, d2] S2)) I1 ⟨r, mu1, S1, hS1, hE.mono ex1, q2.imp fun d2 S2 mu2 H2 ex hS2 q3 v rv => ⟨mu2, S2, d2, hS2, ex, rv, ?_⟩⟩) fun fv s3 z2 => Calls.spliced_nil ?_)
  · have q4 := (show Post X.K W σ mu2 H2 _ (bnd (ret ([] : List D)) (fun xs => ret (d2 :: xs)) S2) from q3).bnd mu2 H2 Ext.refl hS2
    have q5 := q4 mu2 H2 Ext.refl hS2
    exact q5 mu2 H2 Ext.refl hS2
  · obtain ⟨v2, H2, I2, rv2, mu2, S2, d2, hS2, ex2, rd2, q3⟩ := z2
    have rd' := rd.mono ex2
    cases d with
    | str zz =>
      cases rd'
      obtain ⟨t, rfl⟩ := rv
      have hmap := PySem.W.mapOf_K (prog := X.prog) (w := X.w) I2.kIn kD.at_ kD.lit
      refine call_meetsIn PySem.F.slot_dict_get hmap.typeIs PySem.F.entry_dict_get (PySem.F.args_dict_get_3 _ _ _) (meets_dict_get_default (strKind X.prog X.w) a (PySem.strKind_is X.prog X.w zz t) kD.low fv) ⟨_, hmap, ?_⟩
      have fe : findBy Value.isStrOf es zz = (es.toList.find? fun e => Value.isStrOf zz e.key).map (·.val) := by
        obtain ⟨l⟩ := es
        unfold findBy
        simp
      have rl := entK_find (z := zz) ek
      rw [← fe] at rl
      have q4 : Post X.K W σ mu2 H2 _ (ret ((kvs.lookup zz).getD d2) S2) := q3
      rcases kflat_lookup (z := zz) kf with ⟨e1, e2⟩ | ⟨v0, d0, e1, e2, rep⟩
      · rw [e1] at rl
        have en : findBy Value.isStrOf es zz = none := by
          cases h : findBy Value.isStrOf es zz with
          | none => rfl
          | some u => rw [h] at rl; exact rl.elim
        rw [en]
        rw [e2] at q4
        exact ⟨v2, H2, I2.tok _, rv2, q4 mu2 H2 Ext.refl hS2 _ rd2⟩
      · rw [e1] at rl
        cases h : findBy Value.isStrOf es zz with
        | none => rw [h] at rl; exact rl.elim
        | some u =>
          rw [h] at rl
          rw [e2] at q4
          exact ⟨v0, H2, I2.tok _, rl, q4 mu2 H2 Ext.refl hS2 _ (rep _ _ _)⟩
    | _ => exact q3.elim
end
end Fa
namespace Fa
open PySem PySem.Spec PyProof.Rows L2
/-! ### dict comprehensions: keys ints and texts, or tuples of them (tk) -/
def dct0 (tk : Bool) : HO := if tk = true then .dT [] else .dK []
/-- d[k] = v by a comprehension, any keys -/
theorem set_put {X : Cx} {pins : List (Addr × Obj)} {σ : L2.St} {H H' : Hp} {s : Shared} {E : Value → Shared → Prop} {a : Addr} {y v : V} {u r : Value} {Q : Unit → Shared → Prop} (hu : X.A.units + 1 < cLine) (I : Inv X pins σ H s) (g : DPut H a y v H') (ry : RelV y u) (rv : RelV v r)
    (h : ∀ s', Inv X pins σ H' s' → Q () s') : wpAny (model X.prog X.w) X.A (dictSet a u r) Q E s := by
  rcases g with ⟨kvs, k, e, ey, l, eH⟩ | ⟨kvs, k, b, e, ey, eb, l, eH⟩
  · subst ey eH
    exact d_dictSet I e l ry rv h
  · subst ey eH
    cases (show u = Value.ref b from ry)
    obtain ⟨z, hd, xs, rel, dd⟩ := dt_of I.hok e
    have hz : xs.length ≤ sizeLine := by rw [← Paired.length rel]; exact z
    have hl : (putK kvs k v).length ≤ sizeLine := by have := length_putK kvs k v; omega
    refine wpAny_dictSet_heap (hsz := hz) (show X.A.units < cLine by omega) (key_of I.hok eb) dd fun h' dd' hs => h _ ?_
    obtain ⟨q, es, ep, hq, h2, h3, h4, _, h5⟩ := dd'
    refine d_write I (by rw [e]; exact True.intro) hs ⟨q, hq⟩ ⟨hl, hd, _, (rel.put k eb rv).keeps fun c ys ec => ?_, q, es, ep, hq, h2, h3, h4, h5⟩
    rw [upd_ne (ne_of ec e (fun z => nomatch z))]
    exact ec
def tDcP (o0 : HO) (wi : TI) (g : TG) (tt : TT) (tk tv : TE) (vs : List Nat) : TE := fun σ H Q => wi σ H fun J H1 => ∀ D, H1 D = none → ∃ W : Nat → Nat → Hp → Prop, (∃ m, W 0 m (upd H1 D o0)) ∧ ∀ i m H, W i m H →
  (J.stop i H ∧ Q (.ref D) H) ∨ (J.go i H ∧ ∃ Nx : Hp → Prop, (∀ H', Nx H' → ∃ m', m' < m ∧ W (i + 1) m' H') ∧ ∀ x H', J.yld i H x H' → g x (wipe σ vs) H' fun σ2 H2 => wipe σ2 vs = wipe σ vs ∧ tt σ2 H2 fun b H3 =>
    if b = true then tk σ2 H3 fun y H4 => tv σ2 H4 fun z H5 => ∃ H6, DPut H5 D y z H6 ∧ Nx H6 else Nx H3)
section
variable {X : Cx}
theorem pe_dcP {kx vx tg iter : Expr} {ifs : List Expr} {scope : Scope} {own : List (Str × Nat)} {pos : Pos} {wi : TI} {g : TG} {tt : TT} {tk tv : TE} {tb : Bool} (hu : X.A.units + 1 < cLine) (hc : X.calm = true) (hN : X.N.Nodup) (hi : PI X tg iter wi) (ok : BlkOk X.N X.env.scope scope own)
    (hg : ∀ (s : Shared) (H : Hp) (C : Addr) (cl : List (Str × Addr)) (fp : List Addr), PG (X.blk s H scope (compEnvC scope cl C X.env) fp) tg g) (ht : ∀ (s : Shared) (H : Hp) (C : Addr) (cl : List (Str × Addr)) (fp : List Addr), PTs (X.blk s H scope (compEnvC scope cl C X.env) fp) ifs tt)
    (hk : ∀ (s : Shared) (H : Hp) (C : Addr) (cl : List (Str × Addr)) (fp : List Addr), PE (X.blk s H scope (compEnvC scope cl C X.env) fp) kx tk)
    (he : ∀ (s : Shared) (H : Hp) (C : Addr) (cl : List (Str × Addr)) (fp : List Addr), PE (X.blk s H scope (compEnvC scope cl C X.env) fp) vx tv) (hs : ∀ x, foldedSetIterable iter X.env x = pure x := by intro _; rfl) :
    PE X (.DictComp kx vx [⟨tg, iter, ifs, 0⟩] scope pos) (tDcP (dct0 tb) wi g tt tk tv (own.map (·.2))) := by
  constructor
  intro pins s σ H Q I h
  rw [arm_eval_DictComp]
  have hfree : ∀ y ∈ scope.names, y.2 = .free → ∃ c, X.env.cells.lookup y.1 = some c := fun y hy e => by
    rcases ok.free y hy e with k | k
    · exact I.ok.has _ (.inl k)
    · exact I.ok.has _ (.inr k)
  refine wpAny_comprehension_free (use := none) rfl hs (closure_ok hfree) ok.kind (fun y hy e => by rw [ok.uniq y hy, e])
    (thn (hi.run pins s σ H _ I h) fun xv s1 hx => thn hx fun itv s2 h2 => ?_)
  obtain ⟨it, fp, tn, J, H2, e, I2, T, st2, f2, q⟩ := h2
  subst e
  refine wpAny_newObj_type (newEnv_comp ?_)
  generalize hD : s2.heap.objs.size = D
  have hDn : H2 D = none := I2.hok.fresh (Nat.le_of_eq hD)
  obtain ⟨W, ⟨m0, w0⟩, turn⟩ := q D hDn
  generalize hs3 : ({ s2 with heap := s2.heap.push { cls := .type "dict", data := .dict #[] } } : Shared) = s3
  have I3 : Inv X pins σ (upd H2 D (dct0 tb)) s3 := by
    rw [← hs3]
    refine I2.laid (t' := s2.toks) (fun b o e => Heap.get?_push_of_some _ e) (Nat.le_of_eq hD) ?_
    rw [← hD]
    cases tb with
    | true => exact dt_empty s2.heap I2.big
    | false => exact dk_empty s2.heap I2.big
  have h3 : s3.heap = s2.heap.push { cls := .type "dict", data := .dict #[] } := by rw [← hs3]
  have sz : ∀ b ∈ fp, b < s2.heap.objs.size := fun b hb => by
    obtain ⟨o, e, _⟩ := T.obj _ _ st2 b hb
    exact Heap.lt_size e
  have f3 : ∀ b ∈ fp, FpOk X pins (upd H2 D (dct0 tb)) b ∧ b < s3.heap.objs.size := fun b hb => by
    have hlt := sz b hb
    refine ⟨⟨?_, (f2 b hb).2⟩, by rw [h3, Heap.size_push]; exact Nat.lt_succ_of_lt hlt⟩
    rw [upd_ne (by rw [← hD]; exact Nat.ne_of_lt hlt)]
    exact (f2 b hb).1
  have st3 : tn 0 s3.heap := T.keep _ _ _ st2 fun b _ o e => by rw [h3]; exact Heap.get?_push_of_some _ e
  have I4 := block_start I3 ok hN f3
  have pg := hg s3 (upd H2 D (dct0 tb)) s3.heap.objs.size (cellsFrom (s3.heap.objs.size + 1) scope.names (cloFrom X.env.cells scope.names [])) fp
  have pt := ht s3 (upd H2 D (dct0 tb)) s3.heap.objs.size (cellsFrom (s3.heap.objs.size + 1) scope.names (cloFrom X.env.cells scope.names [])) fp
  have pk := hk s3 (upd H2 D (dct0 tb)) s3.heap.objs.size (cellsFrom (s3.heap.objs.size + 1) scope.names (cloFrom X.env.cells scope.names [])) fp
  have pe := he s3 (upd H2 D (dct0 tb)) s3.heap.objs.size (cellsFrom (s3.heap.objs.size + 1) scope.names (cloFrom X.env.cells scope.names [])) fp
  show codeAny _ _ (.compStart (.DictComp kx vx [⟨tg, iter, ifs, 0⟩] scope pos) 0 (.ref it) (.ref D) (compEnvC scope (cellsFrom (s3.heap.objs.size + 1) scope.names (cloFrom X.env.cells scope.names [])) s3.heap.objs.size X.env)) (compPost (model X.prog X.w) X.A X.xe none (EP X pins σ Q) (.ref D) s3.heap.objs.size) { s3 with heap := pushCells (s3.heap.push { cls := .type "dict", data := .dict #[] }) scope.names }
  have nfp : ∀ b ∈ fp, (upd H2 D (dct0 tb)) b = none := fun b hb => (f3 b hb).1.1
  generalize hce : compEnvC scope (cellsFrom (s3.heap.objs.size + 1) scope.names (cloFrom X.env.cells scope.names [])) s3.heap.objs.size X.env = ce at I4 pg pt pk pe ⊢
  have cL : ce.locals = s3.heap.objs.size := by subst hce; rfl
  generalize hH3 : upd H2 D (dct0 tb) = H3 at I3 I4 pg pt pk pe w0 nfp f3
  generalize hs4 : ({ s3 with heap := pushCells (s3.heap.push { cls := .type "dict", data := .dict #[] }) scope.names } : Shared) = s4 at I4 ⊢
  have st4 : tn 0 s4.heap := T.keep _ _ _ st3 fun b _ o e => by rw [← hs4]; exact pushCells_keeps _ _ _ _ (Heap.get?_push_of_some _ e)
  have stat : ∀ {σ' : L2.St} {H' : Hp} {s' : Shared}, Inv (X.blk s3 H3 scope ce fp) [] σ' H' s' → (∀ b ∈ fp, H' b = none) → ∀ b ∈ fp, FpOk (X.blk s3 H3 scope ce fp) [] H' b := fun {σ' H' s'} I' hn b hb =>
    ⟨hn b hb, (I'.ok.exf b hb).1, I'.ok.exfs b hb, .inl hb, fun x c e => (I'.ok.exf b hb).2 x c e, fun p hp => absurd (show p ∈ ([] : List (Addr × Obj)) ++ [] from hp) (by simp)⟩
  have loop : codeAny (model X.prog X.w) X.A (.compLoop (.DictComp kx vx [⟨tg, iter, ifs, 0⟩] scope pos) 0 (.ref it) (.ref D) ce) (compPost (model X.prog X.w) X.A X.xe none (EP X pins σ Q) (.ref D) s3.heap.objs.size) s4 := by
    refine compLoop_anyD (fun n s' => ∃ i H', Inv (X.blk s3 H3 scope ce fp) [] (wipe σ (own.map (·.2))) H' s' ∧ tn i s'.heap ∧ (∀ b ∈ fp, H' b = none) ∧ W i n H') ?_ m0 ⟨0, H3, I4, st4, nfp, w0⟩
    rintro n s5 ⟨i, H5, I5, st5, n5, w5⟩
    rcases turn i n H5 w5 with ⟨stop, qq⟩ | ⟨go, Nx, hNx, step⟩
    · have td := T.done (X.blk s3 H3 scope ce fp) rfl rfl rfl hc i [] s5 _ H5 (fun _ _ => False) I5 (stat I5 n5) st5 stop
      refine thnF td fun r s6 ⟨hr, I6⟩ => ?_
      subst hr
      have I7 : Inv X pins σ H5 s6 := I3.call' (ch := fp) I6.os I6.base I6.hok I6.bare fun b hb => ⟨(f3 b hb).1.2.2.2.1, (f3 b hb).1.2.1, (f3 b hb).1.2.2.2.2.1, (f3 b hb).1.2.2.2.2.2⟩
      have nC : H5 s3.heap.objs.size = none := by
        have z : H5 ce.locals = none := I6.free
        rw [cL] at z
        exact z
      obtain ⟨m, hn, _⟩ := I6.loc
      have hn : s6.heap.Ns ce.locals m := hn
      rw [cL] at hn
      obtain ⟨f0, f1, f2, f3, f4, f5⟩ := I3.fpOk (Nat.le_refl _) nC
      exact ⟨m, hn, fun h'' sb => ⟨.ref D, H5, I7.turned (t' := s6.toks) (fun b o hb e => (sb.2 b hb).trans e) f0 f1 f3 f4 f5, rfl, qq⟩⟩
    · have ti := T.item (X.blk s3 H3 scope ce fp) rfl rfl rfl hc i [] s5 _ H5 (fun _ _ => False) I5 (stat I5 n5) st5 go
      refine thnF ti fun r s6 ⟨u, hr, h6⟩ => ?_
      subst hr
      refine thnF h6 fun _ s7 ⟨x, H7, I7, r7, y7, st7, n7⟩ => ?_
      have I7' := I7.pinned (stat I7 n7) (T.obj _ _ st7)
      refine thnF (pg.run _ s7 _ H7 x u _ I7' r7 (step x H7 y7)) fun _ s8 ⟨σ8, H8, I8, hw8, q8⟩ => ?_
      refine thnF (pt.run _ s8 σ8 H8 _ I8 q8) fun b s9 ⟨H9, I9, q9⟩ => ?_
      have fin : ∀ {s' : Shared} {H' : Hp}, Inv (X.blk s3 H3 scope ce fp) ([] ++ pinsAt fp s7.heap) σ8 H' s' → Nx H' → ∃ m, m < n ∧ ∃ i H', Inv (X.blk s3 H3 scope ce fp) [] (wipe σ (own.map (·.2))) H' s' ∧ tn i s'.heap ∧ (∀ b ∈ fp, H' b = none) ∧ W i m H' := fun {s' H'} I' nx => by
        obtain ⟨m', hm, w'⟩ := hNx H' nx
        have pin' : ∀ b ∈ fp, ∀ o, s7.heap.get? b = some o → s'.heap.get? b = some o ∧ H' b = none := fun b hb o e =>
          let z := I'.pin (b, o) (List.mem_append_right _ (List.mem_append_right _ (mem_pinsAt hb e)))
          ⟨z.1, z.2.1⟩
        have hl : (wipe σ (own.map (·.2))).length = σ8.length := by rw [← hw8, wipe_length]
        refine ⟨m', hm, i + 1, H', (I'.unpinned (pins := [])).weak hl (fun j v e => ?_), T.keep _ _ _ st7 fun b hb o e => (pin' b hb o e).1, fun b hb => ?_, w'⟩
        · rw [← hw8] at e
          exact (wipe_some e).1
        · obtain ⟨o, e, _⟩ := T.obj _ _ st7 b hb
          exact (pin' b hb o e).2
      cases b with
      | false =>
        simp only [Bool.false_eq_true, if_false] at q9 ⊢
        exact fin I9 q9
      | true =>
        simp only [if_true] at q9 ⊢
        refine thnF (pk.run _ s9 σ8 H9 _ I9 q9) fun z s10 ⟨yk, H10, I10, r10, q10⟩ => ?_
        refine thnF (pe.run _ s10 σ8 H10 _ I10 q10) fun z2 s11 ⟨yv, H11, I11, r11, H12, put, nx⟩ => ?_
        exact set_put (X := X.blk s3 H3 scope ce fp) hu I11 put r10 r11 fun s12 I12 => fin I12 nx
  exact codeAny_compStart_dict loop (T.self X.A 0 _ _ _ st4 loop)
end
/-! ### over data -/
def putKD {κ : Type} [DecidableEq κ] (kvs : List (κ × D)) (k : κ) (v : D) : List (κ × D) :=
  if (kvs.any fun kv => decide (kv.1 = k)) = true then kvs.map (fun kv => if kv.1 = k then (kv.1, v) else kv) else kvs ++ [(k, v)]
def keyOf : D → Option Key
  | .int i => some (.inl i)
  | .str x => some (.inr x)
  | _ => none
def keysOf : List D → Option (List Key)
  | [] => some []
  | d :: ds => match keyOf d, keysOf ds with
    | some k, some ks => some (k :: ks)
    | _, _ => none
def putD (n : Nat) (k v : D) : Sto → Option Sto := fun S => match S[n]? with
  | some (.dct kvs) => match keyOf k with
    | some key => if kvs.length < sizeLine then some (S.set n (.dct (putKD kvs key v))) else none
    | none => none
  | some (.dcT kvs) => match k with
    | .ttp ds => match keysOf ds with
      | some key => if kvs.length < sizeLine then some (S.set n (.dcT (putKD kvs key v))) else none
      | none => none
    | _ => none
  | _ => none
section
variable {K : PySem.W.Frag} {mu : List Addr} {H : Hp}
theorem keyOf_of {v : V} {d : D} {k : Key} (r : Rep K mu H v d) (h : keyOf d = some k) : v = kV k := by
  cases d <;> cases h <;> cases r <;> rfl
theorem keysOf_of : ∀ {ds : List D} {vs : List V} {ks : List Key}, Reps K mu H vs ds → keysOf ds = some ks → vs = ks.map kV
  | [], _, _, .nil, h => by
    cases h
    rfl
  | d :: ds, v :: vs, ks, .cons r t, h => by
    unfold keysOf at h
    cases e1 : keyOf d with
    | none => rw [e1] at h; cases h
    | some a =>
      cases e2 : keysOf ds with
      | none => rw [e1, e2] at h; cases h
      | some as =>
        rw [e1, e2] at h
        cases h
        rw [keyOf_of r e1, keysOf_of t e2]
        rfl
theorem kreps_any {κ : Type} [DecidableEq κ] {k : κ} : ∀ {vs : List (κ × V)} {ds : List (κ × D)}, KReps K mu H vs ds → (vs.any fun kv => decide (kv.1 = k)) = ds.any fun kv => decide (kv.1 = k)
  | _, _, .nil => rfl
  | _, _, .cons h t => by rw [List.any_cons, List.any_cons, h.1, kreps_any t]
theorem kreps_put {κ : Type} [DecidableEq κ] {k : κ} {v : V} {d : D} {vs : List (κ × V)} {ds : List (κ × D)} (h : KReps K mu H vs ds) (r : Rep K mu H v d) : KReps K mu H (putK vs k v) (putKD ds k d) := by
  unfold putK putKD
  rw [kreps_any h]
  by_cases q : (ds.any fun kv => decide (kv.1 = k)) = true
  · rw [if_pos q, if_pos q]
    clear q
    induction h with
    | nil => exact .nil
    | @cons p q ps qs h t ih =>
      refine .cons ?_ ih
      obtain ⟨h1, h2⟩ := h
      by_cases e : q.1 = k
      · simp only [if_pos e, if_pos (h1.trans e)]
        exact ⟨h1, r⟩
      · simp only [if_neg e, if_neg (fun z => e (h1.symm.trans z))]
        exact ⟨h1, h2⟩
  · rw [if_neg q, if_neg q]
    exact Paired.snoc h ⟨rfl, r⟩
theorem putD_of {S S' : Sto} {n : Nat} {k d : D} {a : Addr} {y v : V} (hS : HRep K mu H S) (hn : mu[n]? = some a) (ry : Rep K mu H y k) (rv : Rep K mu H v d) (h : putD n k d S = some S') : ∃ H6, DPut H a y v H6 ∧ Ext mu H mu H6 ∧ HRep K mu H6 S' := by
  obtain ⟨o, ho, hm⟩ := hS.obj hn
  unfold putD at h
  rw [ho] at h
  cases o with
  | dct kvs =>
    obtain ⟨vs, h1, hr⟩ := hm
    cases e : keyOf k with
    | none => simp only [e] at h; cases h
    | some key =>
      simp only [e] at h
      by_cases hl : kvs.length < sizeLine
      · rw [if_pos hl] at h
        cases h
        have ex : Ext mu H mu (upd H a (.dK (putK vs key v))) := ext_put hn h1 trivial
        rw [keyOf_of ry e]
        exact ⟨_, .k h1 (by rw [Paired.length hr]; exact hl), ex, hS.put (u' := .dK vs) hn ex ⟨_, upd_same, (kreps_put hr rv).mono ex⟩⟩
      · rw [if_neg hl] at h
        cases h
  | dcT kvs =>
    obtain ⟨vs, h1, hr⟩ := hm
    cases ry with
    | ttp hq hrs =>
      rename_i ad ws ds
      cases e : keysOf ds with
      | none => simp only [e] at h; cases h
      | some key =>
        simp only [e] at h
        by_cases hl : kvs.length < sizeLine
        · rw [if_pos hl] at h
          cases h
          have ex : Ext mu H mu (upd H a (.dT (putK vs key v))) := ext_put hn h1 trivial
          exact ⟨_, .t h1 (by rw [← keysOf_of hrs e]; exact hq) (by rw [Paired.length hr]; exact hl), ex, hS.put (u' := .dT vs) hn ex ⟨_, upd_same, (kreps_put hr rv).mono ex⟩⟩
        · rw [if_neg hl] at h
          cases h
    | _ => cases h
  | _ => cases h
end
def dcGo (src : Src) (g : Tg) (t : Env → M Bool) (ek ev : Env → M D) (n : Nat) (r : Env) : Nat → Nat → Sto → Res D
  | 0, i, S => match nextD src i S with
    | some none => .ok (.loc n) S
    | _ => .bad
  | k + 1, i, S => match nextD src i S with
    | some none => .ok (.loc n) S
    | none => .bad
    | some (some d) => match g d r S with
      | .ok r' S' => match t r' S' with
        | .ok true S2 => match ek r' S2 with
          | .ok y S3 => match ev r' S3 with
            | .ok z S3' => match putD n y z S3' with
              | some S4 => dcGo src g t ek ev n r k (i + 1) S4
              | none => .bad
            | _ => .bad
          | _ => .bad
        | .ok false S2 => dcGo src g t ek ev n r k (i + 1) S2
        | _ => .bad
      | _ => .bad
def mo0 (tk : Bool) : MO := if tk = true then .dcT [] else .dct []
def mDc (tk : Bool) (m : Env → M Src) (g : Tg) (t : Env → M Bool) (ek ev : Env → M D) (vs : List Nat) : Env → M D := fun r => bnd (m r) fun src S => dcGo src g t ek ev S.length (wipeE r vs) (turns src S) 0 (S ++ [mo0 tk])
theorem morep0 {K : PySem.W.Frag} {mu : List Addr} {H : Hp} {a : Addr} (tk : Bool) (h : H a = some (dct0 tk)) : MoRep K mu H a (mo0 tk) := by
  cases tk with
  | true => exact ⟨[], h, .nil⟩
  | false => exact ⟨[], h, .nil⟩
theorem dc_go {X : Cx} {W : WX} {tk : Bool} {m : Env → M Src} {vs : List Nat} {g : Tg} {t : Env → M Bool} {ek ev : Env → M D} {σ : L2.St} {H : Hp} {Q : VK} (q : rdE X.K W (mDc tk m g t ek ev vs) σ H Q) : tDcP (dct0 tk) (rdI X.K W m) (rdG X.K W0 vs g) (rdT X.K W0 t) (rdE X.K W0 ek) (rdE X.K W0 ev) vs σ H Q := by
  obtain ⟨r, mu, S, hS, he, hp⟩ := q
  refine ⟨r, mu, S, hS, he, hp.bnd.imp fun src S1 m2 H2 ex h2 q2 J hJ D hD => ?_⟩
  have hn : (m2 ++ [D])[S1.length]? = some D := by rw [h2.len]; simp
  refine ⟨fun i k H => ∃ mu S, HRep X.K mu H S ∧ Ext (m2 ++ [D]) (upd H2 D (dct0 tk)) mu H ∧ Post X.K W σ mu H (fun d _ mu' H' => ∀ v, Rep X.K mu' H' v d → Q v H') (dcGo src g t ek ev S1.length (wipeE r vs) k i S), ⟨turns src S1, m2 ++ [D], S1 ++ [mo0 tk], h2.new (o := mo0 tk) hD (morep0 tk upd_same), Ext.refl, q2.later (ext_new hD)⟩, fun i k H hW => ?_⟩
  obtain ⟨mu, S, hS, ex2, hp⟩ := hW
  have hJ' := (hJ.mono (ext_new hD)).mono ex2
  have he' := ((he.mono ex).mono (ext_new (u := dct0 tk) hD)).mono ex2
  have hn' := ex2.get hn
  cases en : nextD src i S with
  | none =>
    exfalso
    cases k with
    | zero => unfold dcGo at hp; rw [en] at hp; exact hp
    | succ k => unfold dcGo at hp; rw [en] at hp; exact hp
  | some o =>
    cases o with
    | none =>
      left
      refine ⟨hJ'.stop hS en, ?_⟩
      cases k with
      | zero => unfold dcGo at hp; rw [en] at hp; exact hp mu H Ext.refl hS _ (.loc hn')
      | succ k => unfold dcGo at hp; rw [en] at hp; exact hp mu H Ext.refl hS _ (.loc hn')
    | some d =>
      right
      obtain ⟨hgo, hy⟩ := hJ'.go hS en
      cases k with
      | zero => unfold dcGo at hp; rw [en] at hp; exact hp.elim
      | succ k =>
        refine ⟨hgo, fun H => ∃ mu S, HRep X.K mu H S ∧ Ext (m2 ++ [D]) (upd H2 D (dct0 tk)) mu H ∧ Post X.K W σ mu H (fun d _ mu' H' => ∀ v, Rep X.K mu' H' v d → Q v H') (dcGo src g t ek ev S1.length (wipeE r vs) k (i + 1) S), fun H' hN => ⟨k, Nat.lt_succ_self k, hN⟩, fun x H' y => ?_⟩
        obtain ⟨exy, hSy, rx⟩ := hy x H' y
        replace hS := hSy
        replace he' := he'.mono exy
        replace hp := hp.later exy
        replace ex2 := ex2.trans exy
        refine ⟨wipeE r vs, mu, S, d, hS, he'.wipe vs, rx, ?_⟩
        unfold dcGo at hp
        simp only [en] at hp
        cases eg : g d (wipeE r vs) S with
        | err x S' => simp only [eg] at hp; exact hp.elim
        | bad => simp only [eg] at hp; exact hp
        | ok r' S' =>
          simp only [eg] at hp
          intro m3 H3 e3 h3 σ3 he3 hw
          have wi2 : wipe (wipe σ vs) vs = wipe σ vs := lc_go.wipe_twice σ vs
          refine ⟨by rw [hw, wi2], r', m3, S', h3, he3, ?_⟩
          cases et : t r' S' with
          | err x S2 => rw [et] at hp; exact hp.elim
          | bad => rw [et] at hp; exact hp
          | ok kk S2 =>
            rw [et] at hp
            intro m4 H4 e4 h4
            cases kk with
            | false =>
              rw [if_neg Bool.false_ne_true]
              exact ⟨m4, S2, h4, (ex2.trans e3).trans e4, (hp.later e3).later e4⟩
            | true =>
              rw [if_pos rfl]
              refine ⟨r', m4, S2, h4, he3.mono e4, ?_⟩
              cases ee : ek r' S2 with
              | err x S3 => simp only [ee] at hp; exact hp.elim
              | bad => simp only [ee] at hp; exact hp
              | ok yv S3 =>
                simp only [ee] at hp
                intro m5 H5 e5 h5 v rv
                refine ⟨r', m5, S3, h5, (he3.mono e4).mono e5, ?_⟩
                cases ev' : ev r' S3 with
                | err x S3 => simp only [ev'] at hp; exact hp.elim
                | bad => simp only [ev'] at hp; exact hp
                | ok zv S3' =>
                  simp only [ev'] at hp
                  intro m6 H6 e6 h6 w rw
                  cases ep : putD S1.length yv zv S3' with
                  | none => rw [ep] at hp; exact hp.elim
                  | some S4 =>
                    rw [ep] at hp
                    obtain ⟨H7, p1, p3, p4⟩ := putD_of h6 ((((e3.trans e4).trans e5).trans e6).get hn') (rv.mono e6) rw ep
                    exact ⟨H7, p1, m6, S4, p4, ((((ex2.trans e3).trans e4).trans e5).trans e6).trans p3, ((((hp.later e3).later e4).later e5).later e6).later p3⟩
theorem se_dc {X : Cx} {W : WX} {kx vx tg iter : Expr} {ifs : List Expr} {scope : Scope} {own : List (Str × Nat)} {pos : Pos} {m : Env → M Src} {g : Tg} {t : Env → M Bool} {ek ev : Env → M D} {tk : Bool} (hu : X.A.units + 1 < cLine) (hc : X.calm = true) (hN : X.N.Nodup) (hi : SI X W tg iter m) (ok : BlkOk X.N X.env.scope scope own)
    (hg : ∀ (s : Shared) (H : Hp) (C : Addr) (cl : List (Str × Addr)) (fp : List Addr), SG (X.blk s H scope (compEnvC scope cl C X.env) fp) W0 tg (own.map (·.2)) g)
    (ht : ∀ (s : Shared) (H : Hp) (C : Addr) (cl : List (Str × Addr)) (fp : List Addr), PTs (X.blk s H scope (compEnvC scope cl C X.env) fp) ifs (rdT X.K W0 t))
    (hk : ∀ (s : Shared) (H : Hp) (C : Addr) (cl : List (Str × Addr)) (fp : List Addr), SE (X.blk s H scope (compEnvC scope cl C X.env) fp) W0 kx ek)
    (he : ∀ (s : Shared) (H : Hp) (C : Addr) (cl : List (Str × Addr)) (fp : List Addr), SE (X.blk s H scope (compEnvC scope cl C X.env) fp) W0 vx ev) (hs : ∀ x, foldedSetIterable iter X.env x = pure x := by intro _; rfl) :
    SE X W (.DictComp kx vx [⟨tg, iter, ifs, 0⟩] scope pos) (mDc tk m g t ek ev (own.map (·.2))) := peI (pe_dcP (tb := tk) hu hc hN hi ok hg ht hk he hs) fun σ H Q q => dc_go q
/-! ### tuples as keys: known without their object -/
def tupT (ds : List D) : M D := if ds.length ≤ sizeLine then ret (.ttp ds) else fail
theorem se_tupT {X : Cx} {W : WX} {es : List Expr} {ms : Env → M (List D)} {pos : Pos} {x1} (h : SA X W es ms) : SE X W (.Tuple es x1 pos) (mA tupT ms) := peI (pe_tup h) fun σ H Q q => args (r := fun xs H1 Q => xs.length ≤ sizeLine ∧ ∀ p, H1 p = none → Q (.ref p) (upd H1 p (.tup xs))) (fun W σ mu H S xs vs Q hS hr hp => by
  unfold tupT at hp
  by_cases hl : xs.length ≤ sizeLine
  · rw [if_pos hl] at hp
    exact ⟨by rw [hr.length]; exact hl, fun p hn => hp mu _ (ext_tup hn) (hS.tup hn) _ (.ttp upd_same (hr.mono (ext_tup hn)))⟩
  · rw [if_neg hl] at hp
    exact hp.elim) q
def slT : D → Option Int → Option Int → M D := fun x lo hi => match x with
  | .tup ds => if (HT.sIx ds.length 0 lo = 0 ∧ HT.sIx ds.length ds.length hi = ds.length) then fail else ret (.ttp (cutD ds lo hi))
  | _ => fail
def mSlT (a : Env → M D) (lo hi : Env → M (Option Int)) : Env → M D := fun r => bnd (a r) fun x => bnd (lo r) fun l => bnd (hi r) fun u => slT x l u
theorem se_sliceT {X : Cx} {W : WX} {e : Expr} {lo hi : Option Expr} {m : Env → M D} {l u : Env → M (Option Int)} {p2 pos : Pos} (he : SE X W e m) (hl : SP X W lo l) (hu : SP X W hi u) : SE X W (.Subscript e (.Slice lo hi none p2) pos) (mSlT m l u) := peI (pe_slice sl_tup he hl hu) fun σ H Q q => by
  obtain ⟨r, mu, S, hS, he, hp⟩ := q
  refine ⟨r, mu, S, hS, he, hp.bnd.imp fun x S1 mu1 H1 ex hS1 q1 v rv => ?_⟩
  refine ⟨r, mu1, S1, hS1, he.mono ex, q1.bnd.imp fun a S2 mu2 H2 ex2 hS2 q2 => ?_⟩
  refine ⟨r, mu2, S2, hS2, (he.mono ex).mono ex2, q2.bnd.imp fun b S3 mu3 H3 ex3 hS3 q3 => ?_⟩
  have rv := (rv.mono ex2).mono ex3
  cases rv with
  | tup hd hq hr =>
    rename_i ad vs ds o
    have q4 : Post X.K W σ mu3 H3 _ ((if (HT.sIx ds.length 0 a = 0 ∧ HT.sIx ds.length ds.length b = ds.length) then fail else ret (D.ttp (cutD ds a b))) S3) := q3
    by_cases hw : HT.sIx ds.length 0 a = 0 ∧ HT.sIx ds.length ds.length b = ds.length
    · rw [if_pos hw] at q4
      exact q4.elim
    · rw [if_neg hw] at q4
      refine ⟨ad, vs, rfl, sqT_t hq, by rw [hr.length]; exact hw, fun p hp0 => ?_⟩
      exact q4 mu3 _ (ext_tup hp0) (hS3.tup hp0) _ (.ttp upd_same ((cut_reps a b hr).mono (ext_tup hp0)))
  | _ => exact q3.elim
end Fa
namespace Fa
open PySem PySem.Spec PyProof.Rows L2
/-! ### defs with defaults; recursion -/
structure FnX (K : PySem.W.Frag) (x qual : Str) (st : Stmt) (f : Addr) (fd : FuncData) : Prop where
  ex : ∃ (oc : Value) (od : Option Addr) (dV kV doc pm : Value) (an : Option Addr) (cdv ct : Value) (osl : Array (Option Value)),
    fd = PySem.W.fnOf x qual (defArgs st) (defBody st) (defScope st) dV kV doc pm an cdv ct ∧ K.lookup f = some ⟨oc, od, .func fd, osl⟩ ∧ PySem.W.codeIn K cdv qual = true
  kp : PySem.W.keepIn K (.ref f) = true
abbrev FunE (K : PySem.W.Frag) (x qual : Str) (st : Stmt) (dvs : List V) (f : Addr) (fd : FuncData) : Prop := FunD K x qual (defArgs st) (defBody st) (defScope st) dvs [] f fd
theorem FnX.of {K : PySem.W.Frag} {x qual : Str} {st : Stmt} {f : Addr} {fd : FuncData} (h : Fun K x qual st f fd) : FnX K x qual st f fd := by
  obtain ⟨oc, od, kV, doc, pm, an, cdv, ct, osl, rfl, h2, h3⟩ := h.ex
  exact ⟨⟨oc, od, .none, kV, doc, pm, an, cdv, ct, osl, rfl, h2, h3⟩, h.kp⟩
theorem FnX.ofD {K : PySem.W.Frag} {x qual : Str} {st : Stmt} {dvs : List V} {f : Addr} {fd : FuncData} (h : FunE K x qual st dvs f fd) : FnX K x qual st f fd := by
  obtain ⟨oc, od, dV, kV, doc, pm, an, cdv, ct, osl, h1, h2, h3, _⟩ := h.ex
  exact ⟨⟨oc, od, dV, kV, doc, pm, an, cdv, ct, osl, h1, h2, h3⟩, h.kp⟩
theorem fnG_mkX {P : Program} {w : World} {K : PySem.W.Frag} {mg : Str → Option Value} {base : Heap} {x qual : Str} {st : Stmt} {f : Addr} {fd : FuncData} {N ps : List Str} {k : Nat} {m : Env → Sto → Out} (Fu : FnX K x qual st f fd) (sc : FnScope N ps (defScope st))
    (hb : ∀ (cdv : Value) (A : Around) (outer : List PySem.Env) (s : Shared) (H : Hp) (E : XK), Room k (A.deeper (envOfC qual (defScope st) s.heap.objs.size f cdv)) → A.guards = some [] →
      Takes (cxOf (L2.CX P w) P w K mg base N qual (defScope st) f cdv A outer s H E) (WF E) → SB (cxOf (L2.CX P w) P w K mg base N qual (defScope st) f cdv A outer s H E) (WF E) (defBody st) m) :
    FnG P w K mg base (k + 1) f fd ps (fnM N.length ps.length m) := by
  intro A outer s H ar us vs Q E hr hgd e0 hbi rv hl hpr
  obtain ⟨oc, od, dV, kV, doc, pm, an, cdv, ct, osl, rfl, lk, hcd⟩ := Fu.ex
  have kept : ∀ b o, base.get? b = some o → s.heap.get? b = some o := fun b o q => (e0.bs b o q).1
  have KX : K.In s.heap := e0.mod.kin.keeps kept
  have hkind : ∀ y ∈ ps.zip us, (defScope st).names.lookup y.1 = some .local ∨ ((defScope st).names.lookup y.1 = some .cell ∧ ((cellsFrom (s.heap.objs.size + 1) (defScope st).names []).lookup y.1).isSome = true) := by
    intro y hy
    rcases sc.par y.1 (List.of_mem_zip (a := y.1) (b := y.2) hy).1 with z | z
    · exact Or.inl z
    · exact Or.inr ⟨z, PySem.W.cellsFrom_some _ _ _ (.inl z)⟩
  refine codeAny_call_function hr.depth (KX _ _ lk) rfl sc.co sc.gen rfl (PySem.W.codeRec_of KX hcd) (hbi _ _ _ _ ?_)
  refine wpAny_newFunctionEnv_cells sc.kind hkind fun env he s1 inC => ?_
  subst he
  refine ⟨(e0.mod.nolimit.keeps kept).keeps inC.toInCall.keep, codeAny_func ?_⟩
  have I := inv_start (CX := L2.CX P w) (E := E) sc hr.hd e0 hl rv inC
  have B := hb cdv A outer s H E (hr.deeper _) hgd (takes_of rfl rfl rfl rfl)
  obtain ⟨ds, mu, S, hS, hrs, hp⟩ := hpr
  refine wpAny_mono (B.run [] s1 (start N vs) H { nx := fun _ H' => Q .non H', rt := Q } I ?_) (fun fl s' hs => ?_) fun e s' hs => hs
  · refine ⟨_, mu, S, hS, erep_start _ hrs, ?_⟩
    rw [hl]
    have hl2 : ds.length = ps.length := by rw [← hrs.length]; exact hl
    unfold fnM at hp
    rw [if_pos hl2] at hp
    cases eo : m (ds.map some ++ List.replicate (N.length - ps.length) none) S with
    | nx r S' => rw [eo] at hp; exact fun m2 H2 σ2 e2 h2 _ => hp m2 H2 e2 h2 _ .non
    | rt d S' => rw [eo] at hp; exact fun m2 H2 v e2 h2 q2 => hp m2 H2 e2 h2 v q2
    | bk r S' => rw [eo] at hp; exact hp.elim
    | ct r S' => rw [eo] at hp; exact hp.elim
    | ex z r S' => rw [eo] at hp; exact fun m2 H2 σ2 c dd e2 h2 _ q2 => hp m2 H2 c dd e2 h2 q2
    | bad => rw [eo] at hp; exact hp
  · cases fl with
    | ret u =>
      obtain ⟨v, σ', H', J, r', q⟩ := hs
      exact ⟨v, H', J.os, J.bare, J.base, J.hok, r', q⟩
    | next =>
      obtain ⟨σ', H', J, q⟩ := hs
      exact ⟨V.non, H', J.os, J.bare, J.base, J.hok, rfl, q⟩
    | brk => exact hs.elim fun _ z => z.elim fun _ z => z.2.elim
    | cont => exact hs.elim fun _ z => z.elim fun _ z => z.2.elim
/-- no function at all: the end of the fuel -/
def noF : List D → M D := fun _ _ => .bad
theorem fnG_no {P : Program} {w : World} {K : PySem.W.Frag} {mg : Str → Option Value} {base : Heap} {k : Nat} {f : Addr} {fd : FuncData} {ps : List Str} : FnG P w K mg base k f fd ps noF := by
  intro A outer s H ar us vs Q E hr hgd e0 hbi rv hl hpr
  obtain ⟨ds, mu, S, hS, hrs, hp⟩ := hpr
  exact hp.elim
theorem noF_arity {n : Nat} : arity n noF := fun _ _ _ => rfl
def dfl (F : List D → M D) (dds : List D) : List D → M D := fun ds => F (ds ++ dds)
theorem Reps.app {K : PySem.W.Frag} {mu : List Addr} {H : Hp} {vs ws : List V} {ds es : List D} (a : Reps K mu H vs ds) (b : Reps K mu H ws es) : Reps K mu H (vs ++ ws) (ds ++ es) := a.append b
section
variable {X : Cx} {W : WX} {k : Nat} {f : Addr} {fd : FuncData} {ps : List Str} {F : List D → M D} {x : Str} {p pos : Pos} {e : Expr} {es : List Expr} {ms : Env → M (List D)} {dvs : List V} {dds : List D}
theorem se_callD (G : FnG X.prog X.w X.K X.mg X.base k f fd ps F) (hr : Room k X.A) (hgd : X.A.guards = some []) (tk : Takes X W) (hg : Gl X x) (hm : X.mg x = some (.ref f)) (hk : PySem.W.keepIn X.K (.ref f) = true) (hb : ∃ us, Vals dvs us ∧ Binds X.K fd ps us) (hd : ∀ K mu H, Reps K mu H dvs dds) (ar : arity ps.length F)
    (ha : SA X W (e :: es) ms) (hdb : (x == ("__debug__" : Str)) = false := by decide) (he : starEach (e :: es) X.env = (false, eval e X.env) :: starEach es X.env := by rfl) (hpl : (backTo pos (starEach es X.env)).any (·.1) = false := by rfl) :
    SE X W (.Call (.Name x p) (e :: es) [] pos) (mA (dfl F dds) ms) := by
  constructor
  intro pins s σ H Q I q
  obtain ⟨r, mu, S, hS, hE, hp⟩ := q
  obtain ⟨du, rdu, hb⟩ := hb
  refine wpAny_Call_Name_kw (ld_glob I hg hm ?_ hdb)
  have q1 : rdA X.K W ms σ H fun vs H1 => (vs ++ dvs).length = ps.length ∧ prom X.K F (vs ++ dvs) H1 Q (WE W σ) := by
    refine ⟨r, mu, S, hS, hE, hp.bnd.imp fun ds S1 m2 H2 ex h2 q2 vs rv => ?_⟩
    have rr := rv.app (hd X.K m2 H2)
    refine ⟨?_, prom_of h2 rr q2⟩
    rw [rr.length]
    refine Decidable.byContradiction fun z => ?_
    have q3 : Post X.K W σ m2 H2 _ (F (ds ++ dds) S1) := q2
    rw [ar _ S1 z] at q3
    exact q3
  refine PySem.W.callWith_K (h₀ := X.base) I.ok.mod.kin hk (thn (ha.run pos pins s σ H _ I q1) fun us s1 z => ?_) he hpl
  obtain ⟨vs, H1, I1, rv, hl, hpr⟩ := z
  have rv2 : Vals (vs ++ dvs) (us ++ du) := rv.append rdu
  exact ⟨I1.kIn, runG (ar := ⟨us, []⟩) (us := us ++ du) G hr hgd tk I1 (hb s1 us I1.kIn (by rw [← rv2.length]; exact hl)) rv2 hl hpr⟩
end
end Fa
namespace Fa
open PySem PySem.Spec PyProof.Rows L2
theorem units65 {k : Nat} {A : Around} (hr : Room k A) : A.units + 65 < cLine := by have := hr.un; omega
theorem units1 {k : Nat} {A : Around} (hr : Room k A) : A.units + 1 < cLine := by have := hr.un; omega
/-- a constant tuple -/
theorem se_ktp {X : Cx} {W : WX} {x : Str} {pos : Pos} {a : Addr} {vs : List V} {ds : List D} (hg : Gl X x) (hm : X.mg x = some (.ref a)) (hq : SqK X.K a vs) (hd : ∀ K mu H, Reps K mu H vs ds) (hdb : (x == ("__debug__" : Str)) = false := by decide) : SE X W (.Name x pos) (mC (.ktp ds)) :=
  peI (pe_glob (v := .ref a) hg hm rfl hdb) fun σ H Q q => by
    obtain ⟨r, mu, S, hS, he, hp⟩ := q
    exact hp mu H Ext.refl hS _ (.ktp hq (hd _ _ _))
end Fa
namespace Fa
open PySem PySem.Spec PyProof.Rows L2
section
variable {K : PySem.W.Frag} {X : Cx}
/-! ### methods of tuples -/
def TyF (K : PySem.W.Frag) (x : V) (H : Hp) : Prop := tyV K "tuple" x H ∨ ∃ (a : Addr) (o : Obj) (xs : List V), x = .ref a ∧ o.dict = none ∧ H a = some (.frz o (.tup xs))
theorem tyF_is {pins : List (Addr × Obj)} {σ : L2.St} {H : Hp} {s : Shared} {x : V} {v : Value} (I : Inv X pins σ H s) (r : RelV x v) (ty : TyF X.K x H) :
    s.TypeIs v "tuple" ∧ ∀ a, v = .ref a → ∃ ob, s.heap.get? a = some ob ∧ ob.dict = none := by
  rcases ty with ty | ⟨a, o, xs, rfl, hd, h⟩
  · exact tyV_is I r ty
  · cases r
    obtain ⟨e1, _, its, _, o', e2, c, _⟩ := I.hok a _ h
    rw [e1] at e2
    cases e2
    refine ⟨⟨o, e1, c⟩, fun b z => ?_⟩
    cases z
    exact ⟨o, e1, hd⟩
theorem pe_bmF {o e : Expr} {es : List Expr} {to : TE} {t : TA} {name : Str} {apos cpos : Pos} {id : String} {r : V → List V → Hp → VK → Prop} (slot : Slot "tuple" name id) (hty : typeOf (.builtin id) = pure (.type "method_descriptor")) (hm : MtR X id r) (ho : PE X o to) (ha : PA X (e :: es) t)
    (hbase : attributeBase o name X.env (eval o X.env) = eval o X.env := by rfl)
    (hfew : ((backTo cpos (starEach (e :: es) X.env)).all (fun x => !x.1) && (backToKw cpos (keywordEach [] X.env)).all (fun x => x.1.isSome)
      && decide ((e :: es).length + ([] : List Keyword).length + (if ([] : List Keyword).isEmpty then 0 else 1) < 30)) = true := by rfl)
    (hline : (apos.endLine == cpos.line) = true := by rfl) (hs : starEach (e :: es) X.env = (false, eval e X.env) :: starEach es X.env := by rfl) (hplain : (backTo cpos (starEach es X.env)).any (·.1) = false := by rfl) :
    PE X (.Call (.Attribute o name apos) (e :: es) [] cpos) (fun σ H Q => to σ H fun x H1 => TyF X.K x H1 ∧ t σ H1 fun xs H2 => r x xs H2 Q) := by
  refine ⟨fun pins s σ H Q I h => ?_⟩
  refine wpAny_Call_method_late hbase hfew hline rfl (thn (ho.run pins s σ H _ I h) fun v s1 ⟨x, H1, I1, r1, ty, q1⟩ => ?_)
  obtain ⟨h1, h2⟩ := tyF_is I1 r1 ty
  refine ⟨"tuple", id, PySem.F.plainAttrs_tuple, slot, hty, h1, h2, ?_⟩
  have hA := ha.run cpos pins s1 σ H1 _ I1 q1
  rw [hs] at hA ⊢
  refine Calls.callWith_builtin (by show (false || (backTo cpos (starEach es X.env)).any (·.1)) = false; rw [hplain] <;> rfl) (Calls.evalArgs_plain ?_)
  exact thn hA fun us s2 ⟨vs, H2, I2, r2, q2⟩ => hm pins s2 σ H2 x vs v us Q I2 r1 r2 q2
def idxA : D → List D → M D := fun x xs => match x, xs with
  | .ktp ds, [.str z] => match (strsOf ds).bind (seek z) with
    | some j => ret (.int j)
    | none => fail
  | .tup ds, [.str z] => match (strsOf ds).bind (seek z) with
    | some j => ret (.int j)
    | none => fail
  | _, _ => fail
theorem o_idxA : OpM K (rTIndex K) idxA := by
  intro W σ mu H S x xs v vs Q hS rv rs hp
  unfold idxA at hp
  split at hp
  · rename_i ds z
    obtain ⟨w, rfl, rw⟩ := one_of rs
    cases rw
    cases rv with
    | ktp hq hr =>
      cases e : (strsOf ds).bind (seek z) with
      | none => rw [e] at hp; exact hp.elim
      | some j =>
        rw [e] at hp
        obtain ⟨ys, e1, e2⟩ := Option.bind_eq_some_iff.mp e
        obtain ⟨h1, h2⟩ := seek_of e2
        exact ⟨_, ys, z, j, rfl, rfl, by rw [← strsOf_of e1 hr]; exact sqT_k hq, h1, h2, hp mu H Ext.refl hS _ (.int _)⟩
  · rename_i ds z
    obtain ⟨w, rfl, rw⟩ := one_of rs
    cases rw
    cases rv with
    | tup _ hq hr =>
      cases e : (strsOf ds).bind (seek z) with
      | none => rw [e] at hp; exact hp.elim
      | some j =>
        rw [e] at hp
        obtain ⟨ys, e1, e2⟩ := Option.bind_eq_some_iff.mp e
        obtain ⟨h1, h2⟩ := seek_of e2
        exact ⟨_, ys, z, j, rfl, rfl, by rw [← strsOf_of e1 hr]; exact sqT_t hq, h1, h2, hp mu H Ext.refl hS _ (.int _)⟩
  · exact hp.elim
def mTM (f : D → List D → M D) (o : Env → M D) (a : Env → M (List D)) : Env → M D := fun r => bnd (o r) fun x => match x with
  | .ktp _ => bnd (a r) fun xs => f x xs
  | .tup _ => bnd (a r) fun xs => f x xs
  | _ => fail
theorem se_tm {W : WX} {name : Str} {r : V → List V → Hp → VK → Prop} {f : D → List D → M D} {o e : Expr} {es : List Expr} {mo : Env → M D} {ms : Env → M (List D)} {pos apos : Pos} (hf : OpM X.K r f) (ho : SE X W o mo) (ha : SA X W (e :: es) ms)
    (base : ∀ {to : TE} {t : TA}, PE X o to → PA X (e :: es) t → PE X (.Call (.Attribute o name apos) (e :: es) [] pos) (fun σ H Q => to σ H fun x H1 => TyF X.K x H1 ∧ t σ H1 fun xs H2 => r x xs H2 Q)) : SE X W (.Call (.Attribute o name apos) (e :: es) [] pos) (mTM f mo ms) := peI (base ho ha) fun σ H Q q => by
  obtain ⟨r, mu, S, hS, he, hp⟩ := q
  refine ⟨r, mu, S, hS, he, hp.bnd.imp fun x S1 mu1 H1 ex hS1 q1 v rv => ?_⟩
  cases x with
  | ktp ds =>
    have q2 : Post X.K W σ mu1 H1 _ (bnd (ms r) (fun xs => f (.ktp ds) xs) S1) := q1
    cases rv with
    | ktp hq hr =>
      obtain ⟨o, its, n, h1, h2, h3, _⟩ := id hq
      refine ⟨.inl (.inr (.inl ⟨rfl, o, h1, h2, h3⟩)), r, mu1, S1, hS1, he.mono ex, q2.bnd.imp fun y S2 mu2 H2 ex2 hS2 q3 w rw => ?_⟩
      exact hf W σ mu2 H2 S2 _ _ _ _ Q hS2 (.ktp hq (hr.mono ex2)) rw q3
  | tup ds =>
    have q2 : Post X.K W σ mu1 H1 _ (bnd (ms r) (fun xs => f (.tup ds) xs) S1) := q1
    cases rv with
    | tup hd hq hr =>
      refine ⟨.inr ⟨_, _, _, rfl, hd, hq⟩, r, mu1, S1, hS1, he.mono ex, q2.bnd.imp fun y S2 mu2 H2 ex2 hS2 q3 w rw => ?_⟩
      exact hf W σ mu2 H2 S2 _ _ _ _ Q hS2 ((Rep.tup hd hq hr).mono ex2) rw q3
  | _ => exact q1.elim
end
end Fa
namespace Fa
open PySem PySem.Spec PyProof.Rows L2
/-! ### instances -/
/-- what is known of the class cn and the attribute f of its instances -/
structure AtI (K : PySem.W.Frag) (cn f : Str) : Prop where
  ex : ∃ C, ClsAt K cn C ∧ Cls K C ∧ NoAttr K C f
def fldD (cs : List Str) (f : Str) : D → M D := fun x S => match x with
  | .loc n => match S[n]? with
    | some (.ins cn fs) => if cn ∈ cs then match fs.lookup f with
        | some d => .ok d S
        | none => .bad
      else .bad
    | _ => .bad
  | _ => .bad
section
variable {K : PySem.W.Frag} {X : Cx}
theorem kreps_lookup {mu : List Addr} {H : Hp} {f : Str} : ∀ {vs : List (Str × V)} {ds : List (Str × D)} {d : D}, KReps K mu H vs ds → ds.lookup f = some d → ∃ v, vs.lookup f = some v ∧ Rep K mu H v d
  | _, _, _, .nil, e => by cases e
  | (a, v) :: vs, (b, d') :: ds, d, .cons h t, e => by
    obtain ⟨h1, h2⟩ := h
    have h1 : a = b := h1
    subst h1
    rw [List.lookup_cons] at e ⊢
    cases q : f == a with
    | true =>
      rw [q] at e
      cases e
      exact ⟨v, rfl, h2⟩
    | false =>
      rw [q] at e
      exact kreps_lookup t e
theorem kreps_nolook {mu : List Addr} {H : Hp} {f : Str} : ∀ {vs : List (Str × V)} {ds : List (Str × D)}, KReps K mu H vs ds → ds.lookup f = none → vs.lookup f = none
  | _, _, .nil, _ => rfl
  | (a, v) :: vs, (b, d') :: ds, .cons h t, e => by
    obtain ⟨h1, h2⟩ := h
    have h1 : a = b := h1
    subst h1
    rw [List.lookup_cons] at e ⊢
    cases q : f == a with
    | true => rw [q] at e; cases e
    | false =>
      rw [q] at e
      exact kreps_nolook t e
theorem se_fld {W : WX} {e : Expr} {f : Str} {pos : Pos} {m : Env → M D} {cs : List Str} (hc : ∀ cn ∈ cs, AtI X.K cn f) (he : SE X W e m) (hb : attributeBase e f X.env (eval e X.env) = eval e X.env := by rfl) : SE X W (.Attribute e f pos) (m1 (fldD cs f) m) := peI (pe_fld he hb) fun σ H Q q => by
  obtain ⟨r, mu, S, hS, he, hp⟩ := q
  refine ⟨r, mu, S, hS, he, hp.bnd.imp fun x S1 mu1 H1 ex hS1 q1 v rv => ?_⟩
  cases rv with
  | loc hn =>
    obtain ⟨o, ho, qo⟩ := hS1.obj hn
    unfold fldD at q1
    simp only [ho] at q1
    cases o with
    | ins cn fs =>
      simp only at q1
      by_cases hm : cn ∈ cs
      · rw [if_pos hm] at q1
        obtain ⟨C, dx, vs, hC, h1, hr⟩ := qo
        obtain ⟨C', hC', c1, c2⟩ := (hc cn hm).ex
        obtain rfl := hC.uniq hC'
        cases e1 : fs.lookup f with
        | none => rw [e1] at q1; exact q1.elim
        | some d =>
          rw [e1] at q1
          obtain ⟨w, l1, l2⟩ := kreps_lookup hr e1
          exact ⟨_, _, _, _, w, rfl, h1, c1, c2, l1, q1 mu1 H1 Ext.refl hS1 _ l2⟩
      · rw [if_neg hm] at q1
        exact q1.elim
    | _ => exact q1.elim
  | _ => exact q1.elim
/-! ### o.m(..) -/
/-- the method m of the class cn stands at f -/
structure MtI (K : PySem.W.Frag) (cn m : Str) (f : Addr) : Prop where
  ex : ∃ C, ClsAt K cn C ∧ Cls K C ∧ Meth K C m f
def isIns (cn m : Str) : D → M Unit := fun x S => match x with
  | .loc n => match S[n]? with
    | some (.ins cn' fs) => if cn' = cn then match fs.lookup m with
        | none => .ok () S
        | some _ => .bad
      else .bad
    | _ => .bad
  | _ => .bad
def mMeth (cn m : Str) (F : List D → M D) (o : Env → M D) (a : Env → M (List D)) : Env → M D := fun r => bnd (o r) fun x => bnd (isIns cn m x) fun _ => bnd (a r) fun xs => F (x :: xs)
theorem isIns_of {W : WX} {σ : L2.St} {mu : List Addr} {H : Hp} {S : Sto} {cn m : Str} {x : D} {v : V} {Q : Unit → Sto → List Addr → Hp → Prop} (hS : HRep K mu H S) (rv : Rep K mu H v x) (hp : Post K W σ mu H Q (isIns cn m x S)) :
    ∃ a C dx fs, v = .ref a ∧ ClsAt K cn C ∧ H a = some (.ins C dx fs) ∧ fs.lookup m = none ∧ Q () S mu H := by
  unfold isIns at hp
  cases rv with
  | loc hn =>
    obtain ⟨o, ho, qo⟩ := hS.obj hn
    simp only [ho] at hp
    cases o with
    | ins cn' fs =>
      simp only at hp
      by_cases hm : cn' = cn
      · rw [if_pos hm] at hp
        subst hm
        obtain ⟨C, dx, vs, hC, h1, hr⟩ := qo
        cases e1 : fs.lookup m with
        | some d => rw [e1] at hp; exact hp.elim
        | none =>
          rw [e1] at hp
          exact ⟨_, C, dx, vs, rfl, hC, h1, kreps_nolook hr e1, hp mu H Ext.refl hS⟩
      · rw [if_neg hm] at hp
        exact hp.elim
    | _ => exact hp.elim
  | _ => exact hp.elim
variable {W : WX} {k : Nat} {f : Addr} {fd : FuncData} {ps : List Str} {F : List D → M D} {cn m : Str} {apos pos : Pos} {o e : Expr} {es : List Expr} {mo : Env → M D} {ms : Env → M (List D)}
theorem se_meth {pl : Sem Bool} (G : FnG X.prog X.w X.K X.mg X.base k f fd ps F) (hr : Room k X.A) (hgd : X.A.guards = some []) (tk : Takes X W) (mi : MtI X.K cn m f) (hb : Binds X.K fd ps []) (ar : arity ps.length F) (ho : SE X W o mo) (ha : SA X W (e :: es) ms)
    (hst : starEach (e :: es) X.env = (false, eval e X.env) :: starEach es X.env := by rfl) (hpl : (backTo pos (starEach es X.env)).any (·.1) = false := by rfl)
    (ht : eval (.Call (.Attribute o m apos) (e :: es) [] pos) X.env = (do
      let ov ← eval o X.env
      standAt apos.atName
      let (f, first) ← holding [ov] (getMethod ov m pl)
      callWith pos f first (backTo pos (starEach (e :: es) X.env)) (backToKw pos (keywordEach [] X.env))) := by rfl) :
    SE X W (.Call (.Attribute o m apos) (e :: es) [] pos) (mMeth cn m F mo ms) := by
  constructor
  intro pins s σ H Q I q
  obtain ⟨r, mu, S, hS, hE, hp⟩ := q
  obtain ⟨C, hC, c1, c2⟩ := mi.ex
  have q1 : rdE X.K W mo σ H fun x H1 => ∃ a dx fs, x = .ref a ∧ H1 a = some (.ins C dx fs) ∧ fs.lookup m = none ∧ rdA X.K W ms σ H1 fun vs H2 => (V.ref a :: vs).length = ps.length ∧ prom X.K F (V.ref a :: vs) H2 Q (WE W σ) := by
    refine ⟨r, mu, S, hS, hE, hp.bnd.imp fun x S1 mu1 H1 ex hS1 q1 v rv => ?_⟩
    obtain ⟨a, C', dx, fs, rfl, hC', h1, h2, q2⟩ := isIns_of hS1 rv q1.bnd
    obtain rfl := hC.uniq hC'
    refine ⟨a, dx, fs, rfl, h1, h2, r, mu1, S1, hS1, hE.mono ex, q2.bnd.imp fun ds S2 mu2 H2 ex2 hS2 q3 vs rvs => ?_⟩
    have rr : Reps X.K mu2 H2 (V.ref a :: vs) (x :: ds) := .cons (rv.mono ex2) rvs
    refine ⟨?_, prom_of hS2 rr q3⟩
    rw [rr.length]
    refine Decidable.byContradiction fun z => ?_
    rw [ar _ S2 z] at q3
    exact q3
  refine PySem.W.methodCall_KW (pl := pl) (thn (ho.run pins s σ H _ I q1) fun u s1 z => ?_) ht
  obtain ⟨x, H1, I1, rx, a, dx, fs, rfl, ea, l, q2⟩ := z
  obtain rfl : u = Value.ref a := rx
  refine getmeth_ok I1 ea c1 c2 l ?_
  refine PySem.W.callWith_K (first := [.ref a]) (h₀ := X.base) I.ok.mod.kin c2.kp (thn (ha.run pos pins s1 σ H1 _ I1 q2) fun us s2 z => ?_) hst hpl
  obtain ⟨vs, H2, I2, rvs, hl, hpr⟩ := z
  have rv2 : Vals (V.ref a :: vs) (Value.ref a :: us) := .cons rfl rvs
  refine ⟨I2.kIn, runG (ar := ⟨Value.ref a :: us, []⟩) (us := Value.ref a :: us) G hr hgd tk I2 ?_ rv2 hl hpr⟩
  have b := hb s2 (Value.ref a :: us) I2.kIn (by rw [List.append_nil, ← rv2.length]; exact hl)
  rwa [List.append_nil] at b
end
end Fa
namespace Fa
open PySem PySem.Spec PyProof.Rows L2
/-! ### o.f = v -/
def putFD (f : Str) (v : D) : List (Str × D) → List (Str × D)
  | [] => [(f, v)]
  | (g, x) :: r => if g = f then (g, v) :: r else (g, x) :: putFD f v r
def setF (cs : List Str) (f : Str) : D → D → M Unit := fun x d S => match x with
  | .loc n => match S[n]? with
    | some (.ins cn fs) => if cn ∈ cs ∧ fs.length < 1000 then .ok () (S.set n (.ins cn (putFD f d fs))) else .bad
    | _ => .bad
  | _ => .bad
def gFld (cs : List Str) (f : Str) (mo : Env → M D) : Tg := fun d r => bnd (mo r) fun o => bnd (setF cs f o d) fun _ => ret r
section
variable {K : PySem.W.Frag} {X : Cx}
theorem kreps_putF {mu : List Addr} {H : Hp} {f : Str} {v : V} {d : D} (rv : Rep K mu H v d) : ∀ {vs : List (Str × V)} {ds : List (Str × D)}, KReps K mu H vs ds → KReps K mu H (putF f v vs) (putFD f d ds)
  | _, _, .nil => .cons ⟨rfl, rv⟩ .nil
  | (a, w) :: vs, (b, e) :: ds, .cons h t => by
    obtain ⟨h1, h2⟩ := h
    have h1 : a = b := h1
    subst h1
    unfold putF putFD
    by_cases q : a = f
    · rw [if_pos q, if_pos q]
      exact .cons ⟨rfl, rv⟩ t
    · rw [if_neg q, if_neg q]
      exact .cons ⟨rfl, h2⟩ (kreps_putF rv t)
theorem sg_fld {W : WX} {o : Expr} {f : Str} {mo : Env → M D} {pos : Pos} {cs : List Str} (hc : ∀ cn ∈ cs, AtI X.K cn f) (ho : SE X W o mo) : SG X W (.Attribute o f pos) [] (gFld cs f mo) := ⟨fun pins s σ H v u Q I rv q => by
  obtain ⟨r, mu, S, d, hS, he, hr, hp⟩ := q
  rw [arm_assign_Attribute]
  have q1 : rdE X.K W mo σ H fun x H1 => ∃ a C dx fs, x = .ref a ∧ H1 a = some (.ins C dx fs) ∧ Cls X.K C ∧ NoAttr X.K C f ∧ fs.length < 1000 ∧ Q σ (upd H1 a (.ins C dx (putF f v fs))) := by
    refine ⟨r, mu, S, hS, he, hp.bnd.imp fun x S1 mu1 H1 ex hS1 q1 ov rov => ?_⟩
    cases rov with
    | loc hn =>
      obtain ⟨ob, ho, qo⟩ := hS1.obj hn
      unfold bnd setF at q1
      simp only [ho] at q1
      cases ob with
      | ins cn fs =>
        simp only at q1
        by_cases hm : cn ∈ cs ∧ fs.length < 1000
        · rw [if_pos hm] at q1
          obtain ⟨C, dx, vs, hC, h1, hrs⟩ := qo
          obtain ⟨C', hC', c1, c2⟩ := (hc cn hm.1).ex
          obtain rfl := hC.uniq hC'
          have ext := ext_put (u := .ins C dx (putF f v vs)) hn h1 trivial
          refine ⟨_, C, dx, vs, rfl, h1, c1, c2, by rw [Paired.length hrs]; exact hm.2, ?_⟩
          exact q1 mu1 _ ext (hS1.put (u' := .ins C dx vs) hn ext ⟨C, dx, _, hC, upd_same, (kreps_putF (hr.mono ex) hrs).mono ext⟩) σ ((he.mono ex).mono ext) rfl
        · rw [if_neg hm] at q1
          exact q1.elim
      | _ => exact q1.elim
    | _ => exact q1.elim
  refine wpAny_bind (wpAny_holding (thn (ho.run pins s σ H _ I q1) fun ov s1 z => ?_))
  obtain ⟨x, H1, I1, r1, a, C, dx, fs, rfl, h1, c1, c2, hl, q2⟩ := z
  obtain rfl : ov = Value.ref a := r1
  refine wpAny_bind (wpAny_standAt (wpAny_bind (wpAny_holding (setattr_ok I1 h1 c1 c2 hl rv fun s2 I2 => ?_))))
  exact wpAny_release ⟨σ, _, I2, q2⟩⟩
theorem setF_noerr {cs : List Str} {f : Str} {o d : D} {S : Sto} {x : Exn} {S' : Sto} (h : setF cs f o d S = .err x S') : False := by
  unfold setF at h
  cases o with
  | loc n =>
    cases e : S[n]? with
    | none => simp only [e] at h; cases h
    | some ob =>
      cases ob with
      | ins cn fs =>
        simp only [e] at h
        by_cases hm : cn ∈ cs ∧ fs.length < 1000
        · rw [if_pos hm] at h; cases h
        · rw [if_neg hm] at h; cases h
      | _ => simp only [e] at h; cases h
  | _ => cases h
theorem gFld_noerr {cs : List Str} {f : Str} {i : Nat} : ∀ d r S x S', gFld cs f (mVar i) d r S ≠ .err x S' := fun d r S x S' h => by
  have h' : bnd (mVar i r) (fun o => bnd (setF cs f o d) fun _ => ret r) S = .err x S' := h
  unfold bnd at h'
  cases e : mVar i r S with
  | ok o S1 =>
    rw [e] at h'
    simp only at h'
    cases e2 : setF cs f o d S1 with
    | ok u S2 => rw [e2] at h'; cases h'
    | err y S2 => exact setF_noerr e2
    | bad => rw [e2] at h'; cases h'
  | err y S1 =>
    unfold mVar at e
    cases e3 : r[i]? with
    | none => rw [e3] at e; cases e
    | some q =>
      cases q with
      | none => rw [e3] at e; cases e
      | some d => rw [e3] at e; cases e
  | bad => rw [e] at h'; cases h'
/-! ### C(..) -/
structure MkI (K : PySem.W.Frag) (cn : Str) (f : Addr) (C : Addr) : Prop where
  at_ : ClsAt K cn C
  mks : Mk K C f
def mkD (cn : Str) (F : List D → M D) : List D → M D := fun ds S => match F (.loc S.length :: ds) (S ++ [.ins cn []]) with
  | .ok .non S' => .ok (.loc S.length) S'
  | .err x S' => .err x S'
  | _ => .bad
variable {W : WX} {k : Nat} {f C : Addr} {fd : FuncData} {ps : List Str} {F : List D → M D} {cn x : Str} {p pos : Pos} {e : Expr} {es : List Expr} {ms : Env → M (List D)}
theorem se_make (G : FnG X.prog X.w X.K X.mg X.base k f fd ps F) (hr : Room (k + 1) X.A) (hgd : X.A.guards = some []) (hgm : ∀ us, (X.A.under (.builtin "type.__call__" ⟨.ref C :: us, []⟩)).guards = some []) (tk : Takes X W) (M : MkI X.K cn f C) (hg : Gl X x) (hm : X.mg x = some (.ref C)) (hb : Binds X.K fd ps []) (ar : arity ps.length F)
    (ha : SA X W (e :: es) ms) (hdb : (x == ("__debug__" : Str)) = false := by decide) (he : starEach (e :: es) X.env = (false, eval e X.env) :: starEach es X.env := by rfl) (hpl : (backTo pos (starEach es X.env)).any (·.1) = false := by rfl) :
    SE X W (.Call (.Name x p) (e :: es) [] pos) (mA (mkD cn F) ms) := by
  constructor
  intro pins s σ H Q I q
  obtain ⟨r, mu, S, hS, hE, hp⟩ := q
  refine wpAny_Call_Name_kw (ld_glob I hg hm ?_ hdb)
  have q1 : rdA X.K W ms σ H fun vs H1 => ∀ x dx, H1 x = none → H1 dx = none → dx ≠ x → (V.ref x :: vs).length = ps.length ∧ prom X.K F (V.ref x :: vs) (upd (upd H1 dx (.own x)) x (.ins C dx [])) (fun v H2 => v = .non ∧ Q (.ref x) H2) (WE W σ) := by
    refine ⟨r, mu, S, hS, hE, hp.bnd.imp fun ds S1 mu1 H1 ex hS1 q1 vs rvs x dx hx hdx hne => ?_⟩
    have e1 : Ext mu1 H1 mu1 (upd H1 dx (.own x)) := ext_tup hdx
    have hx2 : upd H1 dx (.own x) x = none := by rw [upd_ne (Ne.symm hne)]; exact hx
    have e2 : Ext mu1 (upd H1 dx (.own x)) (mu1 ++ [x]) (upd (upd H1 dx (.own x)) x (.ins C dx [])) := ext_new hx2
    have hS2 : HRep X.K (mu1 ++ [x]) (upd (upd H1 dx (.own x)) x (.ins C dx [])) (S1 ++ [.ins cn []]) := (hS1.tup hdx).new hx2 ⟨C, dx, [], M.at_, upd_same, .nil⟩
    have rx : Rep X.K (mu1 ++ [x]) (upd (upd H1 dx (.own x)) x (.ins C dx [])) (.ref x) (.loc S1.length) := .loc (by rw [hS1.len]; simp)
    have rr : Reps X.K (mu1 ++ [x]) (upd (upd H1 dx (.own x)) x (.ins C dx [])) (V.ref x :: vs) (.loc S1.length :: ds) := .cons rx ((rvs.mono e1).mono e2)
    have q2 : Post X.K W σ mu1 H1 (fun d _ mu' H' => ∀ v, Rep X.K mu' H' v d → Q v H') (match F (.loc S1.length :: ds) (S1 ++ [.ins cn []]) with
      | .ok .non S' => .ok (.loc S1.length) S'
      | .err x S' => .err x S'
      | _ => .bad) := q1
    refine ⟨?_, prom_of hS2 rr ?_⟩
    · rw [rr.length]
      refine Decidable.byContradiction fun z => ?_
      rw [ar _ _ z] at q2
      exact q2
    · cases eF : F (.loc S1.length :: ds) (S1 ++ [.ins cn []]) with
      | ok d S2 =>
        rw [eF] at q2
        cases d with
        | non =>
          intro m3 H3 e3 h3 v rv
          cases rv
          exact ⟨rfl, q2 m3 H3 ((e1.trans e2).trans e3) h3 _ (rx.mono e3)⟩
        | _ => exact q2.elim
      | err z S2 =>
        rw [eF] at q2
        exact fun m3 H3 cls dd e3 h3 hx3 => q2 m3 H3 cls dd ((e1.trans e2).trans e3) h3 hx3
      | bad => rw [eF] at q2; exact q2.elim
  refine PySem.W.callWith_K (h₀ := X.base) I.ok.mod.kin M.mks.kp (thn (ha.run pos pins s σ H _ I q1) fun us s1 z => ?_) he hpl
  obtain ⟨vs, H1, I1, rvs, hq⟩ := z
  refine ⟨I1.kIn, ?_⟩
  obtain ⟨hl, hpr⟩ := hq (s1.heap.objs.size + 1) s1.heap.objs.size (I1.hok.fresh (Nat.le_succ _)) (I1.hok.fresh (Nat.le_refl _)) (Nat.ne_of_lt (Nat.lt_succ_self _))
  have I2 := Inv.made (C := C) I1
  have r2 : Vals (V.ref (s1.heap.objs.size + 1) :: vs) (Value.ref (s1.heap.objs.size + 1) :: us) := .cons rfl rvs
  have hb2 : BindsTo { s1 with heap := (s1.heap.push PySem.W.emptyDict).push (PySem.W.instObj C s1.heap.objs.size) } fd ⟨Value.ref (s1.heap.objs.size + 1) :: us, []⟩ (ps.zip (Value.ref (s1.heap.objs.size + 1) :: us)) := by
    have b := hb { s1 with heap := (s1.heap.push PySem.W.emptyDict).push (PySem.W.instObj C s1.heap.objs.size) } (Value.ref (s1.heap.objs.size + 1) :: us) I2.kIn (by rw [List.append_nil, ← r2.length]; exact hl)
    rwa [List.append_nil] at b
  refine wpAny_call (make_map (f := f) I1.kIn M.mks.makes M.mks.init (beq_iff_eq.mp M.mks.fn) (codeAny_mono (G _ X.stack _ _ ⟨Value.ref (s1.heap.objs.size + 1) :: us, []⟩ (Value.ref (s1.heap.objs.size + 1) :: us) _ _ (WE W σ) (hr.make C us []) (hgm us)
    (I2.env0.make C us []) hb2 r2 hl hpr) fun r s' hq' => ?_))
  cases r with
  | error y => exact passAt tk σ pins _ _ y s' I2 hq'
  | ok fl =>
    cases fl with
    | ret u =>
      obtain ⟨v, H', I3, rv, ev, q3⟩ := I2.after hq'
      subst ev
      exact ⟨rv, ⟨V.ref (s1.heap.objs.size + 1), H', I3, rfl, q3⟩⟩
    | _ => exact False.elim hq'
end
end Fa
namespace Fa
open PySem PySem.Spec PyProof.Rows L2
section
variable {K : PySem.W.Frag} {X : Cx}
/-! ### dicts: d[k], d[k] = v, k in d, {} -/
def valKD {κ : Type} [DecidableEq κ] (kvs : List (κ × D)) (k : κ) : Option D := (kvs.find? fun kv => decide (kv.1 = k)).map (·.2)
theorem kreps_val {κ : Type} [DecidableEq κ] {mu : List Addr} {H : Hp} {k : κ} : ∀ {vs : List (κ × V)} {ds : List (κ × D)}, KReps K mu H vs ds → (valV vs k = none ∧ valKD ds k = none) ∨ ∃ v d, valV vs k = some v ∧ valKD ds k = some d ∧ Rep K mu H v d
  | _, _, .nil => .inl ⟨rfl, rfl⟩
  | (a, v) :: vs, (b, d) :: ds, .cons h t => by
    obtain ⟨h1, h2⟩ := h
    have h1 : a = b := h1
    subst h1
    unfold valV valKD
    rw [List.find?_cons, List.find?_cons]
    by_cases q : a = k
    · simp only [decide_eq_true q]
      exact .inr ⟨v, d, rfl, rfl, h2⟩
    · simp only [decide_eq_false q]
      exact kreps_val t
/-- the dict at the handle, its value at the key -/
def dget (S : Sto) (x k : D) : Option (Option D) := match x with
  | .loc n => match S[n]? with
    | some (.dct kvs) => match keyOf k with
      | some key => some (valKD kvs key)
      | none => none
    | some (.dcT kvs) => match k with
      | .ttp ds => match keysOf ds with
        | some key => some (valKD kvs key)
        | none => none
      | _ => none
    | _ => none
  | _ => none
theorem dget_of {mu : List Addr} {H : Hp} {S : Sto} {x k : D} {v y : V} {o : Option D} (hS : HRep K mu H S) (rv : Rep K mu H v x) (ry : Rep K mu H y k) (h : dget S x k = some o) :
    ∃ a o', v = .ref a ∧ DGet H a y o' ∧ ((o' = none ∧ o = none) ∨ ∃ w d, o' = some w ∧ o = some d ∧ Rep K mu H w d) := by
  unfold dget at h
  cases rv with
  | loc hn =>
    obtain ⟨ob, ho, qo⟩ := hS.obj hn
    simp only [ho] at h
    cases ob with
    | dct kvs =>
      obtain ⟨vs, h1, hr⟩ := qo
      cases e : keyOf k with
      | none => simp only [e] at h; cases h
      | some key =>
        simp only [e] at h
        cases h
        rw [keyOf_of ry e]
        refine ⟨_, _, rfl, .k h1, ?_⟩
        rcases kreps_val (k := key) hr with ⟨e1, e2⟩ | ⟨w, d, e1, e2, r⟩
        · exact .inl ⟨e1, e2⟩
        · exact .inr ⟨w, d, e1, e2, r⟩
    | dcT kvs =>
      obtain ⟨vs, h1, hr⟩ := qo
      cases ry with
      | ttp hq hrs =>
        rename_i ad ws ds
        cases e : keysOf ds with
        | none => simp only [e] at h; cases h
        | some key =>
          simp only [e] at h
          cases h
          refine ⟨_, _, rfl, .t h1 (by rw [← keysOf_of hrs e]; exact hq), ?_⟩
          rcases kreps_val (k := key) hr with ⟨e1, e2⟩ | ⟨w, d, e1, e2, r⟩
          · exact .inl ⟨e1, e2⟩
          · exact .inr ⟨w, d, e1, e2, r⟩
      | _ => cases h
    | _ => cases h
  | _ => cases h
def ixA : D → D → M D := fun x k S => match dget S x k with
  | some (some d) => .ok d S
  | some none => .bad
  | none => ixD x k S
def rIxA (K : PySem.W.Frag) : R2 := fun x y H Q => rIx K x y H Q ∨ ∃ a v, x = .ref a ∧ DGet H a y (some v) ∧ Q v H
theorem ix_dct (hu : X.A.units + 1 < cLine) : IxR X (fun x y H Q => ∃ a v, x = .ref a ∧ DGet H a y (some v) ∧ Q v H) := by
  intro value slice pins s σ H x y v u Q I rx ry h hs
  obtain ⟨a, w, rfl, g, q⟩ := h
  cases rx
  exact tail_any (ops := [.ref a, u]) (dict_typeIs I g) PySem.F.slot_dict_getitem.lookup (d_getItem hu I g ry fun w' s3 I3 rw' => ⟨w, H, I3, rw', q⟩) hs
theorem ix_all (hu : X.A.units + 1 < cLine) : IxR X (rIxA X.K) := ix_seq.or (ix_dct hu)
theorem o_ixA : Op2 K (rIxA K) ixA := by
  intro W σ mu H S x y v w Q hS rx ry hp
  unfold ixA at hp
  cases e : dget S x y with
  | none => rw [e] at hp; exact .inl (o_ix W σ mu H S x y v w Q hS rx ry hp)
  | some o =>
    rw [e] at hp
    cases o with
    | none => exact hp.elim
    | some d =>
      obtain ⟨a, o', rfl, g, q⟩ := dget_of hS rx ry e
      rcases q with ⟨_, z⟩ | ⟨w', d', rfl, z, r⟩
      · cases z
      · cases z
        exact .inr ⟨a, w', rfl, g, hp mu H Ext.refl hS _ r⟩
def inDA (neg : Bool) : D → D → M D := fun x y S => match dget S y x with
  | some o => .ok (.bl (if neg then !o.isSome else o.isSome)) S
  | none => inD neg x y S
def rDIn (neg : Bool) : R2 := fun y x H Q => ∃ a o, x = .ref a ∧ DGet H a y o ∧ Q (.bl (if neg then !o.isSome else o.isSome)) H
theorem op_din (hu : X.A.units + 1 < cLine) : OpR X (compareOp .In) (rDIn false) := by
  intro pins s σ H x y v u Q I rx ry h
  obtain ⟨a, o, rfl, g, q⟩ := h
  cases ry
  exact d_in hu I g rx fun s3 I3 => ⟨.bl o.isSome, H, I3, rfl, q⟩
theorem op_dnotin (hu : X.A.units + 1 < cLine) : OpR X (compareOp .NotIn) (rDIn true) := by
  intro pins s σ H x y v u Q I rx ry h
  obtain ⟨a, o, rfl, g, q⟩ := h
  cases ry
  exact d_notIn hu I g rx fun s3 I3 => ⟨.bl (!o.isSome), H, I3, rfl, q⟩
theorem op_inB (hu : X.A.units + 65 < cLine) : OpR X (compareOp .In) (fun x y H Q => rInA X.K x y H Q ∨ rDIn false x y H Q) := (op_inA hu).or (op_din (by omega))
theorem op_notInB (hu : X.A.units + 65 < cLine) : OpR X (compareOp .NotIn) (fun x y H Q => rNotInA X.K x y H Q ∨ rDIn true x y H Q) := (op_notInA hu).or (op_dnotin (by omega))
theorem din_of {W : WX} {σ : L2.St} {mu : List Addr} {H : Hp} {S : Sto} {x y : D} {v w : V} {Q : VK} {neg : Bool} {o : Option D} (hS : HRep K mu H S) (rx : Rep K mu H v x) (ry : Rep K mu H w y) (e : dget S y x = some o) (hp : Q (.bl (if neg then !o.isSome else o.isSome)) H) : rDIn neg v w H Q := by
  obtain ⟨a, o', rfl, g, q⟩ := dget_of hS ry rx e
  refine ⟨a, o', rfl, g, ?_⟩
  rcases q with ⟨rfl, rfl⟩ | ⟨w', d', rfl, rfl, r⟩ <;> exact hp
theorem o_inB : Op2 K (fun x y H Q => rInA K x y H Q ∨ rDIn false x y H Q) (inDA false) := by
  intro W σ mu H S x y v w Q hS rx ry hp
  unfold inDA at hp
  cases e : dget S y x with
  | none => rw [e] at hp; exact .inl (o_in W σ mu H S x y v w Q hS rx ry hp)
  | some o => rw [e] at hp; exact .inr (din_of (W := W) (σ := σ) hS rx ry e (hp mu H Ext.refl hS _ (.bl _)))
theorem o_notInB : Op2 K (fun x y H Q => rNotInA K x y H Q ∨ rDIn true x y H Q) (inDA true) := by
  intro W σ mu H S x y v w Q hS rx ry hp
  unfold inDA at hp
  cases e : dget S y x with
  | none => rw [e] at hp; exact .inl (o_notIn W σ mu H S x y v w Q hS rx ry hp)
  | some o => rw [e] at hp; exact .inr (din_of (W := W) (σ := σ) hS rx ry e (hp mu H Ext.refl hS _ (.bl _)))
def dct0D : Env → M D := fun _ S => .ok (.loc S.length) (S ++ [.dct []])
theorem se_dct0 {W : WX} {pos : Pos} : SE X W (.Dict [] [] pos) dct0D := peI pe_dnewK fun σ H Q q => by
  obtain ⟨r, mu, S, hS, he, hp⟩ := q
  intro p hn
  refine hp _ _ (ext_new hn) (hS.new hn ⟨[], upd_same, .nil⟩) _ (.loc ?_)
  rw [hS.len]
  simp
/-! d[k] = v or l[i] = v -/
def setA : D → D → D → M Unit := fun x k d S => match x with
  | .loc n => match S[n]? with
    | some (.lst ds) => setD (.loc n) k d S
    | _ => match putD n k d S with
      | some S' => .ok () S'
      | none => .bad
  | _ => .bad
def gSubA (mo mi : Env → M D) : Tg := fun d r => bnd (mo r) fun o => bnd (mi r) fun i => bnd (setA o i d) fun _ => ret r
def rSetAll : TSet := fun o i v H Q => rSetL o i v H Q ∨ rSetD o i v H Q
theorem set_all (hu : X.A.units + 1 < cLine) : PSet X rSetAll := by
  intro pins s σ H o i v ov iv u Q I ro ri rv h
  rcases h with h | h
  · exact set_list pins s σ H o i v ov iv u Q I ro ri rv h
  · exact set_dict hu pins s σ H o i v ov iv u Q I ro ri rv h
theorem sg_subA {W : WX} {o i : Expr} {mo mi : Env → M D} {pos : Pos} (hu : X.A.units + 1 < cLine) (ho : SE X W o mo) (hi : SE X W i mi)
    (ha : ∀ v, assign (.Subscript o i pos) X.env v = (do
      let ov ← holding [v] (eval o X.env)
      let iv ← holding [v, ov] (eval i X.env)
      standAt pos
      holding [v, ov, iv] (setItem ov iv v)
      release [v, ov, iv] []) := by intro _; rfl) : SG X W (.Subscript o i pos) [] (gSubA mo mi) := ⟨fun p s σ H v u Q I rv q => (pg_sub ho hi (set_all hu) ha).run p s σ H v u Q I rv (by
  obtain ⟨r, mu, S, d, hS, he, hr, hp⟩ := q
  refine ⟨r, mu, S, hS, he, hp.bnd.imp fun x S1 mu1 H1 ex hS1 q1 ov rov => ?_⟩
  refine ⟨r, mu1, S1, hS1, he.mono ex, q1.bnd.imp fun y S2 mu2 H2 ex2 hS2 q2 iv riv => ?_⟩
  have rov2 := rov.mono ex2
  cases rov2 <;> first | exact q2.elim | skip
  rename_i a n hn
  obtain ⟨ob, hob, qb⟩ := hS2.obj hn
  have fin : ∀ S', putD n y d S2 = some S' → Post X.K W σ mu2 H2 (fun r' _ mu' H' => ∀ σ', ERep X.K mu' H' σ' r' → wipe σ' [] = wipe σ [] → Q σ' H') (ret r S') → rSetAll (.ref a) iv v H2 fun H3 => Q σ H3 := fun S' e q4 => by
    obtain ⟨H6, g, ext, h6⟩ := putD_of hS2 hn riv ((hr.mono ex).mono ex2) e
    exact .inr ⟨a, H6, rfl, g, q4 mu2 H6 ext h6 σ (((he.mono ex).mono ex2).mono ext) rfl⟩
  unfold bnd setA at q2
  simp only [hob] at q2
  cases ob with
  | lst ds =>
    simp only at q2
    cases riv <;> first | exact q2.elim | skip
    rename_i k
    unfold setD at q2
    simp only [hob] at q2
    obtain ⟨vs, h1, hrs⟩ := qb
    cases e : ixN ds.length k with
    | none => rw [e] at q2; exact q2.elim
    | some j =>
      rw [e] at q2
      have ext : Ext mu2 H2 mu2 (upd H2 a (.lst (vs.set j v))) := ext_put hn h1 trivial
      refine .inl ⟨a, vs, k, j, rfl, rfl, h1, by rw [hrs.length]; exact e, ?_⟩
      exact q2 mu2 _ ext (hS2.put (u' := .lst vs) hn ext ⟨_, upd_same, (hrs.set ((hr.mono ex).mono ex2) j).mono ext⟩) σ (((he.mono ex).mono ex2).mono ext) rfl
  | _ =>
    simp only at q2
    cases e : putD n y d S2 with
    | none => rw [e] at q2; exact q2.elim
    | some S' => rw [e] at q2; exact fin S' e q2)⟩
end
end Fa
namespace Fa
open PySem PySem.Spec PyProof.Rows L2
section
variable {X : Cx} {W : WX}
/-! ### zip of two tuples -/
def zipOf : List D → M Src
  | [.tup xs, .tup ys] => ret (.zip xs ys)
  | _ => fail
def mZip (m : Env → M (List D)) : Env → M Src := fun r => bnd (m r) zipOf
theorem si_zip {e e2 : Expr} {ms : Env → M (List D)} {p pos tpos : Pos} {elts : List Expr} {kk : Nat} (hg : Gl X "zip") (hm : X.mg "zip" = none) (ha : SA X W [e, e2] ms)
    (hs : starEach [e, e2] X.env = (false, eval e X.env) :: starEach [e2] X.env := by rfl) (hpl : (backTo pos (starEach [e2] X.env)).any (·.1) = false := by rfl) :
    SI X W (.Tuple elts kk tpos) (.Call (.Name "zip" p) [e, e2] [] pos) (mZip ms) := ⟨fun pins s σ H R I q => (RZ.pi_zipA hg hm ha hs hpl).run pins s σ H R I (by
  obtain ⟨r, mu, S, hS, he, hp⟩ := q
  refine ⟨r, mu, S, hS, he, hp.bnd.imp fun xs S1 mu1 H1 ex hS1 q1 vs rv => ?_⟩
  unfold zipOf at q1
  split at q1
  · rename_i xs ys
    cases rv with
    | cons r1 rv =>
      cases rv with
      | cons r2 rv =>
        cases rv
        cases r1 with
        | tup d1 h1 rs1 =>
          cases r2 with
          | tup d2 h2 rs2 =>
            refine ⟨_, _, _, _, rfl, .inr ⟨sqT_t h1, sqT_t h2, ?_⟩⟩
            exact q1 mu1 H1 Ext.refl hS1 _ ⟨_, _, _, _, rs1, rs2, sqT_t h1, sqT_t h2, rfl⟩
  · exact q1.elim)⟩
/-- the arounds of a class's call -/
theorem hgm_of {A : Around} {C : Addr} (h : A.guards = some []) : ∀ us, (A.under (.builtin "type.__call__" ⟨.ref C :: us, []⟩)).guards = some [] := fun us => h
/-! three names at once -/
def sPar3 (i j l : Nat) (ms : Env → M (List D)) : Env → Sto → Out := bndO ms fun ds r S => match ds with
  | [x, y, z] => .nx (((r.set i (some x)).set j (some y)).set l (some z)) S
  | _ => .bad
theorem ss_par3 {i j l : Nat} {x y z : Str} {a b c : Expr} {ms : Env → M (List D)} {px py pz pt pos : Pos} {kt k2 pt2} (hc : X.calm = true) (hN : X.N.Nodup) (hi : X.N[i]? = some x) (hj : X.N[j]? = some y) (hl : X.N[l]? = some z) (hij : i ≠ j) (hil : i ≠ l) (hjl : j ≠ l)
    (hx : X.env.scope.names.lookup x = some .local) (hy : X.env.scope.names.lookup y = some .local) (hz : X.env.scope.names.lookup z = some .local) (ha : SA X W [a, b, c] ms)
    (hw : swappedStores [.Tuple [.Name x px, .Name y py, .Name z pz] kt pt] (.Tuple [a, b, c] k2 pt2) X.env = pure (some [x, y, z]))
    (hs : swapsWithSole [.Tuple [.Name x px, .Name y py, .Name z pz] kt pt] (.Tuple [a, b, c] k2 pt2) pos.line X.env = pure false := by rfl) :
    SS X W (.Assign [.Tuple [.Name x px, .Name y py, .Name z pz] kt pt] (.Tuple [a, b, c] k2 pt2) pos) (sPar3 i j l ms) := psI (ps_par3 hc hN hi hj hl hij hil hjl hx hy hz ha hw hs) fun D σ H q => by
  obtain ⟨r, mu, S, hS, he, hp⟩ := q
  refine ⟨r, mu, S, hS, he, ?_⟩
  unfold sPar3 bndO at hp
  cases e : ms r S with
  | ok d S' =>
    rw [e] at hp
    intro m2 H2 e2 h2 vs rv
    cases rv with
    | nil => exact hp.elim
    | cons r1 t =>
      cases t with
      | nil => exact hp.elim
      | cons r2 t =>
        cases t with
        | nil => exact hp.elim
        | cons r3 t =>
          cases t with
          | nil => exact ⟨_, _, _, rfl, hp m2 H2 _ e2 h2 ((((he.mono e2).set r1 i).set r2 j).set r3 l)⟩
          | cons _ _ => exact hp.elim
  | err z S' => rw [e] at hp; exact fun m2 H2 cl dd e2 h2 rx => hp m2 H2 σ cl dd e2 h2 (he.mono e2) rx
  | bad => rw [e] at hp; exact hp
/-! ### tuple * int, every count -/
theorem tuple_mul1 (l : Addr) (items : Array Value) (n : Nat) (dd : Option Addr) (sl : Array (Option Value)) (x : Int) (u : Tok) (c0 : (decide (x < -(2 ^ 63)) || decide (x ≥ 2 ^ 63)) = false) (c1 : (items.isEmpty || x == 1) = true) :
    Meets (Builtin.«tuple.__mul__» ⟨[.ref l, .int x u], []⟩) (fun _ R s => s.heap.get? l = some { cls := .type "tuple", dict := dd, data := .seq items n, slots := sl } ∧
      R (.ok (.ret (Value.ref l))) s) :=
  .of_wp fun prog w A R s h => by
    obtain ⟨hp, g, d, tk, os⟩ := s
    obtain ⟨hl, h⟩ := h
    have f1 := AutoSeq1.idx_int
    wp_walk using wpAny_loadPart' hl
    repeat (first
      | (refine wpAny_ite_false (decide_eq_false (by rw [c0]; exact Bool.false_ne_true)) ?_; wp_walk using wpAny_loadPart' hl)
      | (refine wpAny_ite_true (decide_eq_true c1) ?_; wp_walk using wpAny_loadPart' hl))
    exact ⟨_, rfl, h⟩
theorem tuple_mul0 (l : Addr) (items : Array Value) (n : Nat) (dd : Option Addr) (sl : Array (Option Value)) (x : Int) (u : Tok) (c0 : (decide (x < -(2 ^ 63)) || decide (x ≥ 2 ^ 63)) = false) (c1 : (items.isEmpty || x == 1) = false) (c2 : (decide (x ≤ 0) || items.isEmpty) = true) :
    Meets (Builtin.«tuple.__mul__» ⟨[.ref l, .int x u], []⟩) (fun _ R s => s.heap.get? l = some { cls := .type "tuple", dict := dd, data := .seq items n, slots := sl } ∧
      R (.ok (.ret (Value.ref s.heap.objs.size))) { s with heap := s.heap.push { cls := Value.type "tuple", data := Data.seq #[] }, toks := s.toks }) :=
  .of_wp fun prog w A R s h => by
    obtain ⟨hp, g, d, tk, os⟩ := s
    obtain ⟨hl, h⟩ := h
    have f1 := AutoSeq1.idx_int
    wp_walk using wpAny_loadPart' hl
    repeat (first
      | (refine wpAny_ite_false (decide_eq_false (by rw [c0]; exact Bool.false_ne_true)) ?_; wp_walk using wpAny_loadPart' hl)
      | (refine wpAny_ite_false (decide_eq_false (by rw [c1]; exact Bool.false_ne_true)) ?_; wp_walk using wpAny_loadPart' hl)
      | (refine wpAny_ite_true (decide_eq_true c2) ?_; wp_walk using wpAny_loadPart' hl))
    exact ⟨_, rfl, h⟩
def rRep1 (K : PySem.W.Frag) : R2 := fun x y H Q => ∃ l k xs, x = .ref l ∧ y = .int k ∧ SqT K H l xs ∧ (xs = [] ∨ k = 1) ∧ -1000 ≤ k ∧ k ≤ 1000 ∧ Q (.ref l) H
theorem op_rep1 : OpR X (binaryOp .Mult) (rRep1 X.K) := by
  intro pins s σ H x y v u Q I rx ry h
  obtain ⟨l, k, xs, rfl, rfl, hT, hne, h1, h2, q⟩ := h
  cases rx
  obtain ⟨t, rfl⟩ := ry
  obtain ⟨its, r, ⟨⟨cls, dd, data, sl⟩, ho, hc, n, hd⟩, hs⟩ := I.tuple hT
  simp only at hc hd
  subst hc hd
  have hle : its.length = xs.length := r.length.symm
  have c0 : (decide (k < -(2 ^ 63)) || decide (k ≥ 2 ^ 63)) = false := by
    rw [decide_eq_false (by omega), decide_eq_false (by omega)] <;> rfl
  have c1 : (its.toArray.isEmpty || k == 1) = true := by
    rcases hne with rfl | rfl
    · have : its = [] := List.eq_nil_of_length_eq_zero hle
      subst this
      rfl
    · simp
  exact wpAny_binaryOp_repeat_ref (T := "tuple") (U := "int") (by decide) ⟨_, ho, rfl⟩ (fun s' => typeIs_int s' k t) noFill_tuple_mul F.fills_int_mul F.slot_int_rmul repeat_tuple F.slot_int_index.lookup
    (call_meets F.slot_int_rmul (typeIs_int s k t) F.entry_int_rmul (F.args_int_rmul_2 _ _) (int_rmul_tuple k t l its.toArray n dd sl)
      ⟨ho, rfl, ⟨_, ho, rfl⟩, call_meets F.slot_tuple_mul ⟨_, ho, rfl⟩ F.entry_tuple_mul (F.args_tuple_mul_2 _ _) (tuple_mul1 l its.toArray n dd sl k t c0 c1) ⟨ho, ⟨.ref l, H, I, rfl, q⟩⟩⟩)
def rRep0 (K : PySem.W.Frag) : R2 := fun x y H Q => ∃ l k xs, x = .ref l ∧ y = .int k ∧ SqT K H l xs ∧ xs ≠ [] ∧ -1000 ≤ k ∧ k ≤ 0 ∧ NewF H [] Q
theorem op_rep0 : OpR X (binaryOp .Mult) (rRep0 X.K) := by
  intro pins s σ H x y v u Q I rx ry h
  obtain ⟨l, k, xs, rfl, rfl, hT, hne, h1, h2, q⟩ := h
  cases rx
  obtain ⟨t, rfl⟩ := ry
  obtain ⟨its, r, ⟨⟨cls, dd, data, sl⟩, ho, hc, n, hd⟩, hs⟩ := I.tuple hT
  simp only at hc hd
  subst hc hd
  have hle : its.length = xs.length := r.length.symm
  have hi : its.toArray.isEmpty = false := by
    cases its with
    | nil => exact absurd (List.eq_nil_of_length_eq_zero hle.symm) hne
    | cons a b => rfl
  have c0 : (decide (k < -(2 ^ 63)) || decide (k ≥ 2 ^ 63)) = false := by
    rw [decide_eq_false (by omega), decide_eq_false (by omega)] <;> rfl
  have c1 : (its.toArray.isEmpty || k == 1) = false := by
    rw [hi, Bool.false_or]
    exact beq_eq_false_iff_ne.mpr (by omega)
  have c2 : (decide (k ≤ 0) || its.toArray.isEmpty) = true := by
    rw [decide_eq_true h2]
    rfl
  refine wpAny_binaryOp_repeat_ref (T := "tuple") (U := "int") (by decide) ⟨_, ho, rfl⟩ (fun s' => typeIs_int s' k t) noFill_tuple_mul F.fills_int_mul F.slot_int_rmul repeat_tuple F.slot_int_index.lookup
    (call_meets F.slot_int_rmul (typeIs_int s k t) F.entry_int_rmul (F.args_int_rmul_2 _ _) (int_rmul_tuple k t l its.toArray n dd sl)
      ⟨ho, rfl, ⟨_, ho, rfl⟩, call_meets F.slot_tuple_mul ⟨_, ho, rfl⟩ F.entry_tuple_mul (F.args_tuple_mul_2 _ _) (tuple_mul0 l its.toArray n dd sl k t c0 c1 c2) ⟨ho, ?_⟩⟩)
  exact new_f (its := []) I (Nat.zero_le _) .nil q
def repS (k : Int) : Bool := decide (-1000 ≤ k) && decide (k ≤ 1000)
def mulB : D → D → M D
  | .tup ds, .int k => if repS k = true then (if ds.isEmpty || decide (k = 1) then ret (.tup ds) else if k ≤ 0 then ret (.tup []) else mulA (.tup ds) (.int k)) else fail
  | x, y => mulA x y
def rMulB (K : PySem.W.Frag) : R2 := fun x y H Q => (rI CMul (fun i j => .int (i * j)) x y H Q ∨ rRepF K x y H Q) ∨ rRep1 K x y H Q ∨ rRep0 K x y H Q
theorem op_mulB : OpR X (binaryOp .Mult) (rMulB X.K) := op_mulAll.or (op_rep1.or op_rep0)
theorem o_mulB {K : PySem.W.Frag} : Op2 K (rMulB K) mulB := by
  intro W σ mu H S x y v w Q hS rx ry hp
  unfold mulB at hp
  split at hp
  · rename_i ds k
    by_cases hk : repS k = true
    · rw [if_pos hk] at hp
      have hk' := hk
      unfold repS at hk'
      rw [Bool.and_eq_true, decide_eq_true_eq, decide_eq_true_eq] at hk'
      by_cases h1 : (ds.isEmpty || decide (k = 1)) = true
      · rw [if_pos h1] at hp
        cases ry
        cases rx with
        | tup hd hq hr =>
          refine .inr (.inl ⟨_, k, _, rfl, rfl, sqT_t hq, ?_, hk'.1, hk'.2, hp mu H Ext.refl hS _ (.tup hd hq hr)⟩)
          rw [Bool.or_eq_true, decide_eq_true_eq] at h1
          rcases h1 with h1 | h1
          · cases hr with
            | nil => exact .inl rfl
            | cons _ _ => cases h1
          · exact .inr h1
      · rw [if_neg h1] at hp
        by_cases h2 : k ≤ 0
        · rw [if_pos h2] at hp
          cases ry
          cases rx with
          | tup hd hq hr =>
            refine .inr (.inr ⟨_, k, _, rfl, rfl, sqT_t hq, ?_, hk'.1, h2, fun p o hn hd => hp mu _ (ext_tup hn) (hS.tup hn) _ (.tup hd upd_same .nil)⟩)
            intro e
            subst e
            cases hr
            exact h1 rfl
        · rw [if_neg h2] at hp
          exact .inl (o_mulA W σ mu H S _ _ v w Q hS rx ry hp)
    · rw [if_neg hk] at hp
      exact hp.elim
  · exact .inl (o_mulA W σ mu H S _ _ v w Q hS rx ry hp)
/-! classes that have an attribute -/
theorem atN {K : PySem.W.Frag} {f : Str} : ∀ cn ∈ ([] : List Str), AtI K cn f := fun _ h => nomatch h
theorem atC {K : PySem.W.Frag} {f c : Str} {cs : List Str} (h : AtI K c f) (t : ∀ cn ∈ cs, AtI K cn f) : ∀ cn ∈ c :: cs, AtI K cn f := fun cn hm => by
  rcases List.mem_cons.mp hm with z | z
  · rw [z]; exact h
  · exact t cn z
end
end Fa
namespace Fa
open PySem PySem.Spec PyProof.Rows L2
/-! ### a call leaves no more than its answer needs -/
mutual
def ltD' (n : Nat) : D → Bool
  | .loc k => decide (k < n)
  | .tup ds => ltDs n ds
  | .ktp ds => ltDs n ds
  | .ttp ds => ltDs n ds
  | .rls ds => ltDs n ds
  | .exn _ _ ds => ltDs n ds
  | .non | .bl _ | .int _ | .str _ | .adr _ | .ty _ => true
def ltDs (n : Nat) : List D → Bool
  | [] => true
  | d :: ds => ltD' n d && ltDs n ds
end
def ltK {κ : Type} (n : Nat) : List (κ × D) → Bool
  | [] => true
  | (_, d) :: r => ltD' n d && ltK n r
def ltO (n : Nat) : MO → Bool
  | .lst ds => ltDs n ds
  | .dct kvs => ltK n kvs
  | .dcT kvs => ltK n kvs
  | .ins _ fs => ltK n fs
  | .tab _ _ => true
def ltS (n : Nat) : Sto → Bool
  | [] => true
  | o :: r => ltO n o && ltS n r
def nlK {κ : Type} : List (κ × D) → Bool
  | [] => true
  | (_, d) :: r => noLoc d && nlK r
def gcR (S : Sto) : Res D → Res D
  | .ok d S2 => if noLoc d = true then .ok d S else shR S (.ok d S2)
  | .err x S2 => if nlK x.fs = true then .err x S else shR S (.err x S2)
  | .bad => .bad
def trR (n : Nat) : Res D → Res D
  | .ok d S => if (ltD' n d && ltS n (S.take n)) = true then .ok d (S.take n) else .ok d S
  | .err x S => if (ltK n x.fs && ltS n (S.take n)) = true then .err x (S.take n) else .err x S
  | .bad => .bad
def gc (F : List D → M D) : List D → M D := fun ds S => if noLocs ds = true then gcR S (F ds []) else trR S.length (F ds S)
section
variable {K : PySem.W.Frag} {mu l : List Addr} {H : Hp}
mutual
theorem rep_lt : ∀ {v : V} {d : D}, ltD' mu.length d = true → Rep K (mu ++ l) H v d → Rep K mu H v d
  | _, _, _, .non => .non
  | _, _, _, .bl b => .bl b
  | _, _, _, .int i => .int i
  | _, _, _, .str x => .str x
  | _, _, _, .ty n => .ty n
  | _, _, _, .adr a => .adr a
  | _, _, n, .loc h => .loc (by
      simp only [ltD', decide_eq_true_eq] at n
      rwa [List.getElem?_append_left n] at h)
  | _, _, n, .tup hd h r => .tup hd h (reps_lt (by simpa [ltD'] using n) r)
  | _, _, n, .ktp h r => .ktp h (reps_lt (by simpa [ltD'] using n) r)
  | _, _, n, .ttp h r => .ttp h (reps_lt (by simpa [ltD'] using n) r)
  | _, _, n, .rls h r => .rls h (reps_lt (by simpa [ltD'] using n) r)
  | _, _, n, .exn h0 h1 h2 h3 h4 h5 r => .exn h0 h1 h2 h3 h4 h5 (reps_lt (by simpa [ltD'] using n) r)
theorem reps_lt : ∀ {vs : List V} {ds : List D}, ltDs mu.length ds = true → Reps K (mu ++ l) H vs ds → Reps K mu H vs ds
  | _, _, _, .nil => .nil
  | _, _, n, .cons r t => by
    simp only [ltDs, Bool.and_eq_true] at n
    exact .cons (rep_lt n.1 r) (reps_lt n.2 t)
end
theorem kreps_lt {κ : Type} : ∀ {s : List (κ × V)} {r : List (κ × D)}, ltK mu.length r = true → KReps K (mu ++ l) H s r → KReps K mu H s r
  | _, _, _, .nil => .nil
  | _, _, n, .cons h t => by
    simp only [ltK, Bool.and_eq_true] at n
    exact .cons ⟨h.1, rep_lt n.1 h.2⟩ (kreps_lt n.2 t)
theorem kreps_nl {κ : Type} : ∀ {s : List (κ × V)} {r : List (κ × D)}, nlK r = true → KReps K mu H s r → KReps K [] H s r
  | _, _, _, .nil => .nil
  | _, _, n, .cons h t => by
    simp only [nlK, Bool.and_eq_true] at n
    exact .cons ⟨h.1, rep_noLoc n.1 h.2⟩ (kreps_nl n.2 t)
theorem morep_lt {a : Addr} : ∀ {o : MO}, ltO mu.length o = true → MoRep K (mu ++ l) H a o → MoRep K mu H a o
  | .lst _, n, ⟨vs, h, r⟩ => ⟨vs, h, reps_lt n r⟩
  | .dct _, n, ⟨vs, h, r⟩ => ⟨vs, h, kreps_lt n r⟩
  | .dcT _, n, ⟨vs, h, r⟩ => ⟨vs, h, kreps_lt n r⟩
  | .ins _ _, n, ⟨C, dx, vs, hc, h, r⟩ => ⟨C, dx, vs, hc, h, kreps_lt n r⟩
  | .tab _ _, _, h => h
theorem ltS_at {n : Nat} : ∀ {S : Sto} {i : Nat} {o : MO}, ltS n S = true → S[i]? = some o → ltO n o = true
  | [], _, _, _, e => by simp at e
  | p :: r, 0, o, h, e => by
    simp at e
    subst e
    simp only [ltS, Bool.and_eq_true] at h
    exact h.1
  | p :: r, i + 1, o, h, e => by
    simp only [ltS, Bool.and_eq_true] at h
    exact ltS_at h.2 (by simpa using e)
theorem hrep_lt {S : Sto} (h : HRep K (mu ++ l) H S) (hs : ltS mu.length (S.take mu.length) = true) : HRep K mu H (S.take mu.length) := by
  have hl := h.len
  rw [List.length_append] at hl
  refine ⟨by rw [List.length_take]; omega, (List.nodup_append.mp h.nd).1, fun n o a e1 e2 => ?_⟩
  have hn : n < mu.length := (List.getElem?_eq_some_iff.mp e2).1
  have q := morep_lt (ltS_at hs e1) (h.ob n o a (by rw [List.getElem?_take_of_lt hn] at e1; exact e1) (by rw [List.getElem?_append_left hn]; exact e2))
  exact q
/-- the old store stays behind a run in a store of its own -/
theorem frame0 {mu2 : List Addr} {H2 : Hp} {S : Sto} (hS : HRep K mu H S) (e : Ext [] H mu2 H2) : Ext mu H mu H2 ∧ HRep K mu H2 S := by
  have all : ∀ a o, H a = some o → H2 a = some o := fun a o h => e.rest a o (by simp) h
  have E : Ext mu H mu H2 := ⟨⟨[], by simp, fun _ z => nomatch z⟩, e.live, fun a o _ h => all a o h, fun a φ h => all a _ h, fun a φ h => all a _ h, fun a φ h => all a _ h, fun a o u h => all a _ h⟩
  refine ⟨E, hS.len, hS.nd, fun n o a e1 e2 => ?_⟩
  have q := hS.ob n o a e1 e2
  obtain ⟨u, eu⟩ := q.some
  exact q.mono E (by rw [eu]; exact all a u eu)
mutual
theorem rep_nil : ∀ {v : V} {d : D}, Rep K [] H v d → Rep K mu H v d
  | _, _, .non => .non
  | _, _, .bl b => .bl b
  | _, _, .int i => .int i
  | _, _, .str x => .str x
  | _, _, .ty n => .ty n
  | _, _, .adr a => .adr a
  | _, _, .loc h => by simp at h
  | _, _, .tup hd h r => .tup hd h (reps_nil r)
  | _, _, .ktp h r => .ktp h (reps_nil r)
  | _, _, .ttp h r => .ttp h (reps_nil r)
  | _, _, .rls h r => .rls h (reps_nil r)
  | _, _, .exn h0 h1 h2 h3 h4 h5 r => .exn h0 h1 h2 h3 h4 h5 (reps_nil r)
theorem reps_nil : ∀ {vs : List V} {ds : List D}, Reps K [] H vs ds → Reps K mu H vs ds
  | _, _, .nil => .nil
  | _, _, .cons r t => .cons (rep_nil r) (reps_nil t)
end
theorem kreps_nil {κ : Type} : ∀ {s : List (κ × V)} {r : List (κ × D)}, KReps K [] H s r → KReps K mu H s r
  | _, _, .nil => .nil
  | _, _, .cons h t => .cons ⟨h.1, rep_nil h.2⟩ (kreps_nil t)
theorem xrep_nl {cls : Value} {dd : Option Addr} {x : Exn} {mu2 : List Addr} (n : nlK x.fs = true) (h : XRep K mu2 H cls dd x) : XRep K mu H cls dd x := by
  obtain ⟨e, a, fs, h1, h2, h3⟩ := h
  exact ⟨e, a, fs, h1, h2, kreps_nil (kreps_nl n h3)⟩
theorem xrep_lt {cls : Value} {dd : Option Addr} {x : Exn} (n : ltK mu.length x.fs = true) (h : XRep K (mu ++ l) H cls dd x) : XRep K mu H cls dd x := by
  obtain ⟨e, a, fs, h1, h2, h3⟩ := h
  exact ⟨e, a, fs, h1, h2, kreps_lt n h3⟩
theorem Ext.cut {H' : Hp} (e : Ext mu H (mu ++ l) H') : Ext mu H mu H' := ⟨⟨[], by simp, fun _ z => nomatch z⟩, e.live, e.rest, e.exts, e.xds, e.tups, e.frzs⟩
theorem prom_gc {F : List D → M D} {vs : List V} {Q : VK} {E : XK} (h : prom K (gc F) vs H Q E) : prom K F vs H Q E := by
  obtain ⟨ds, mu, S, hS, hr, hp⟩ := h
  unfold gc at hp
  by_cases n : noLocs ds = true
  · rw [if_pos n] at hp
    refine ⟨ds, [], [], hrep_nil, reps_noLoc n hr, ?_⟩
    cases e : F ds [] with
    | ok d S2 =>
      rw [e] at hp
      intro mu2 H2 ex h2 v rv
      unfold gcR at hp
      by_cases z : noLoc d = true
      · simp only [if_pos z] at hp
        obtain ⟨E, h3⟩ := frame0 hS ex
        exact hp mu H2 E h3 v (rep_nil (rep_noLoc z rv))
      · simp only [if_neg z] at hp
        obtain ⟨E, h3⟩ := frame hS ex h2
        refine hp (mu ++ mu2) H2 E ?_ v ?_ <;> rw [show S.length = mu.length from hS.len]
        · exact h3
        · exact rep_sft rv
    | err x S2 =>
      rw [e] at hp
      intro mu2 H2 cls dd ex h2 hx
      unfold gcR at hp
      by_cases z : nlK x.fs = true
      · simp only [if_pos z] at hp
        obtain ⟨E, h3⟩ := frame0 hS ex
        exact hp mu H2 cls dd E h3 (xrep_nl z hx)
      · simp only [if_neg z] at hp
        obtain ⟨E, h3⟩ := frame hS ex h2
        refine hp (mu ++ mu2) H2 cls dd E ?_ ?_ <;> rw [show S.length = mu.length from hS.len]
        · exact h3
        · exact xrep_sft hx
    | bad => rw [e] at hp; exact hp.elim
  · rw [if_neg n] at hp
    refine ⟨ds, mu, S, hS, hr, ?_⟩
    rw [hS.len] at hp
    cases e : F ds S with
    | ok d S2 =>
      rw [e] at hp
      unfold trR at hp
      by_cases z : (ltD' mu.length d && ltS mu.length (S2.take mu.length)) = true
      · simp only [if_pos z] at hp
        rw [Bool.and_eq_true] at z
        intro mu2 H2 ex h2 v rv
        obtain ⟨l, e1, _⟩ := id ex.pre
        subst e1
        exact hp mu H2 ex.cut (hrep_lt h2 z.2) v (rep_lt z.1 rv)
      · simp only [if_neg z] at hp
        exact hp
    | err x S2 =>
      rw [e] at hp
      unfold trR at hp
      by_cases z : (ltK mu.length x.fs && ltS mu.length (S2.take mu.length)) = true
      · simp only [if_pos z] at hp
        rw [Bool.and_eq_true] at z
        intro mu2 H2 cls dd ex h2 hx
        obtain ⟨l, e1, _⟩ := id ex.pre
        subst e1
        exact hp mu H2 cls dd ex.cut (hrep_lt h2 z.2) (xrep_lt z.1 hx)
      · simp only [if_neg z] at hp
        exact hp
    | bad => rw [e] at hp; exact hp.elim
theorem fnG_gc {P : Program} {w : World} {mg : Str → Option Value} {base : Heap} {k : Nat} {f : Addr} {fd : FuncData} {ps : List Str} {F : List D → M D} (G : FnG P w K mg base k f fd ps F) : FnG P w K mg base k f fd ps (gc F) :=
  fun A outer s H ar us vs Q E hr hg e0 hb rv hl hp => G A outer s H ar us vs Q E hr hg e0 hb rv hl (prom_gc hp)
theorem gc_arity {n : Nat} {F : List D → M D} (h : arity n F) : arity n (gc F) := fun ds S hl => by
  unfold gc
  by_cases z : noLocs ds = true
  · rw [if_pos z, h ds [] hl]
    rfl
  · rw [if_neg z, h ds S hl]
    rfl
end
mutual
theorem ltD_up {n m : Nat} (h : n ≤ m) : ∀ {d : D}, ltD' n d = true → ltD' m d = true
  | .loc k, e => by
    simp only [ltD', decide_eq_true_eq] at e ⊢
    omega
  | .tup ds, e => by simpa [ltD'] using ltDs_up h (by simpa [ltD'] using e)
  | .ktp ds, e => by simpa [ltD'] using ltDs_up h (by simpa [ltD'] using e)
  | .ttp ds, e => by simpa [ltD'] using ltDs_up h (by simpa [ltD'] using e)
  | .rls ds, e => by simpa [ltD'] using ltDs_up h (by simpa [ltD'] using e)
  | .exn _ _ ds, e => by simpa [ltD'] using ltDs_up h (by simpa [ltD'] using e)
  | .non, _ | .bl _, _ | .int _, _ | .str _, _ | .adr _, _ | .ty _, _ => rfl
theorem ltDs_up {n m : Nat} (h : n ≤ m) : ∀ {ds : List D}, ltDs n ds = true → ltDs m ds = true
  | [], _ => rfl
  | d :: ds, e => by
    simp only [ltDs, Bool.and_eq_true] at e ⊢
    exact ⟨ltD_up h e.1, ltDs_up h e.2⟩
end
theorem ltK_up {κ : Type} {n m : Nat} (h : n ≤ m) : ∀ {ds : List (κ × D)}, ltK n ds = true → ltK m ds = true
  | [], _ => rfl
  | (_, d) :: ds, e => by
    simp only [ltK, Bool.and_eq_true] at e ⊢
    exact ⟨ltD_up h e.1, ltK_up h e.2⟩
theorem ltO_up {n m : Nat} (h : n ≤ m) : ∀ {o : MO}, ltO n o = true → ltO m o = true
  | .lst _, e => ltDs_up h e
  | .dct _, e => ltK_up h e
  | .dcT _, e => ltK_up h e
  | .ins _ _, e => ltK_up h e
  | .tab _ _, _ => rfl
theorem ltS_up {n m : Nat} (h : n ≤ m) : ∀ {S : Sto}, ltS n S = true → ltS m S = true
  | [], _ => rfl
  | o :: S, e => by
    simp only [ltS, Bool.and_eq_true] at e ⊢
    exact ⟨ltO_up h e.1, ltS_up h e.2⟩
theorem ltS_app {n : Nat} : ∀ {S T : Sto}, ltS n S = true → ltS n T = true → ltS n (S ++ T) = true
  | [], _, _, h => h
  | o :: S, T, e, h => by
    simp only [ltS, Bool.and_eq_true, List.cons_append] at e ⊢
    exact ⟨e.1, ltS_app e.2 h⟩
theorem ltDs_mem {n : Nat} : ∀ {ds : List D} {d : D}, ltDs n ds = true → d ∈ ds → ltD' n d = true
  | e :: ds, d, h, hm => by
    simp only [ltDs, Bool.and_eq_true] at h
    rcases List.mem_cons.mp hm with z | z
    · rw [z]; exact h.1
    · exact ltDs_mem h.2 z
theorem mulB_ii (S : Sto) (m n : Int) (h : mulC m n = true) : mulB (.int m) (.int n) S = .ok (.int (m * n)) S := mul_ii S m n h
end Fa
namespace Fa
open PySem PySem.Spec PyProof.Rows L2
/-! ### {k: v, ..} -/
def mPairs : List ((Env → M D) × (Env → M D)) → Env → M (List (D × D))
  | [], _ => ret []
  | p :: l, r => bnd (p.1 r) fun x => bnd (p.2 r) fun y => bnd (mPairs l r) fun ps => ret ((x, y) :: ps)
def keyP : List (D × D) → Option (List (Key × D))
  | [] => some []
  | (k, d) :: r => match keyOf k, keyP r with
    | some key, some ks => some ((key, d) :: ks)
    | _, _ => none
def mergeD (kvs more : List (Key × D)) : List (Key × D) := more.foldl (fun acc kv => putKD acc kv.1 kv.2) kvs
def mDisp (l : List ((Env → M D) × (Env → M D))) : Env → M D := fun r S => match mPairs l r (S ++ [.dct []]) with
  | .ok ps S2 => match S2[S.length]?, keyP ps with
    | some (.dct []), some kvs => if kvs.length ≤ 15 then .ok (.loc S.length) (S2.set S.length (.dct (mergeD [] kvs))) else .bad
    | _, _ => .bad
  | .err x S2 => .err x S2
  | .bad => .bad
section
variable {K : PySem.W.Frag} {X : Cx} {W : WX}
def PReps (K : PySem.W.Frag) (mu : List Addr) (H : Hp) : List (V × V) → List (D × D) → Prop := Paired fun p q => Rep K mu H p.1 q.1 ∧ Rep K mu H p.2 q.2
abbrev trs (K : PySem.W.Frag) (W : WX) (l : List ((Env → M D) × (Env → M D))) : List (TE × TE) := l.map fun p => (rdE K W p.1, rdE K W p.2)
theorem pairs_go : ∀ (l : List ((Env → M D) × (Env → M D))) {σ : L2.St} {r : Env} {mu : List Addr} {S : Sto} {H : Hp} {Q : List (V × V) → Hp → Prop}, HRep K mu H S → ERep K mu H σ r →
    Post K W σ mu H (fun ps S' mu' H' => HRep K mu' H' S' → ∀ vs, PReps K mu' H' vs ps → Q vs H') (mPairs l r S) → tPairs (trs K W l) σ H Q
  | [], σ, r, mu, S, H, Q, hS, he, hp => hp mu H Ext.refl hS hS [] .nil
  | p :: l, σ, r, mu, S, H, Q, hS, he, hp => by
    refine ⟨r, mu, S, hS, he, hp.bnd.imp fun x S1 mu1 H1 ex hS1 q1 v rv => ?_⟩
    refine ⟨r, mu1, S1, hS1, he.mono ex, q1.bnd.imp fun y S2 mu2 H2 ex2 hS2 q2 w rw => ?_⟩
    refine pairs_go l hS2 (he.mono (ex.trans ex2)) (q2.bnd.imp fun ps S3 mu3 H3 ex3 hS3 q3 _ vs rvs => ?_)
    exact q3 mu3 H3 Ext.refl hS3 hS3 _ (.cons ⟨(rv.mono ex2).mono ex3, rw.mono ex3⟩ rvs)
theorem keyP_of {mu : List Addr} {H : Hp} : ∀ {ps : List (D × D)} {vs : List (V × V)} {kvs : List (Key × D)}, PReps K mu H vs ps → keyP ps = some kvs → ∃ ws : List (Key × V), vs = ws.map (fun kv => (kV kv.1, kv.2)) ∧ KReps K mu H ws kvs
  | [], _, kvs, .nil, h => by
    cases h
    exact ⟨[], rfl, .nil⟩
  | (k, d) :: ps, (v, u) :: vs, kvs, .cons h t, e => by
    unfold keyP at e
    cases e1 : keyOf k with
    | none => simp only [e1] at e; cases e
    | some key =>
      cases e2 : keyP ps with
      | none => simp only [e1, e2] at e; cases e
      | some ks =>
        simp only [e1, e2] at e
        cases e
        obtain ⟨ws, q1, q2⟩ := keyP_of t e2
        refine ⟨(key, u) :: ws, ?_, .cons ⟨rfl, h.2⟩ q2⟩
        rw [List.map_cons, q1]
        show (v, u) :: _ = (kV key, u) :: _
        rw [show v = kV key from keyOf_of h.1 e1]
theorem kreps_merge {mu : List Addr} {H : Hp} : ∀ {ws : List (Key × V)} {kvs : List (Key × D)} {as : List (Key × V)} {bs : List (Key × D)}, KReps K mu H ws kvs → KReps K mu H as bs → KReps K mu H (mergeK as ws) (mergeD bs kvs)
  | _, _, _, _, .nil, h => h
  | p :: ws, q :: kvs, as, bs, .cons h t, h0 => by
    have e : KReps K mu H (putK as p.1 p.2) (putKD bs q.1 q.2) := by
      rw [show p.1 = q.1 from h.1]
      exact kreps_put h0 h.2
    exact kreps_merge (ws := ws) (kvs := kvs) t e
theorem se_disp {pos : Pos} {keys : List (Option Expr)} {values : List Expr} {l : List ((Env → M D) × (Env → M D))} (h : PPs X pos keys values (trs X.K W l)) (hall : keys.all (·.isSome) = true := by rfl) (hl : keys.length = values.length := by rfl) (h0 : keys ≠ [] := by simp)
    (h15 : keys.length ≤ 15 := by decide) : SE X W (.Dict keys values pos) (mDisp l) := peI (pe_disp h hall hl h0 h15) fun σ H Q q => by
  obtain ⟨r, mu, S, hS, he, hp⟩ := q
  intro p hn
  have ex := ext_new (mu := mu) (u := .dK []) hn
  have hS1 : HRep X.K (mu ++ [p]) (upd H p (.dK [])) (S ++ [.dct []]) := hS.new hn ⟨[], upd_same, .nil⟩
  refine pairs_go l hS1 (he.mono ex) ?_
  unfold mDisp at hp
  cases e : mPairs l r (S ++ [.dct []]) with
  | bad => rw [e] at hp; exact hp.elim
  | err x S2 =>
    rw [e] at hp
    exact hp.later ex
  | ok ps S2 =>
    rw [e] at hp
    intro mu2 H2 e2 hS2 _ vs rvs
    simp only at hp
    cases e3 : S2[S.length]? with
    | none => simp only [e3] at hp; exact hp.elim
    | some o =>
      cases e4 : keyP ps with
      | none => simp only [e3, e4] at hp; cases o <;> first | exact hp.elim | (rename_i kk; cases kk <;> exact hp.elim)
      | some kvs =>
        simp only [e3, e4] at hp
        have hn2 : mu2[S.length]? = some p := e2.get (by rw [hS.len]; simp)
        obtain ⟨o', ho', hm⟩ := hS2.obj hn2
        rw [e3] at ho'
        cases ho'
        cases o with
        | dct k0 =>
          cases k0 with
          | cons _ _ => exact hp.elim
          | nil =>
            simp only at hp
            by_cases hz : kvs.length ≤ 15
            · rw [if_pos hz] at hp
              obtain ⟨us, h1, hr⟩ := hm
              cases hr
              obtain ⟨ws, q1, q2⟩ := keyP_of rvs e4
              have e5 : Ext mu2 H2 mu2 (upd H2 p (.dK (mergeK [] ws))) := ext_put hn2 h1 trivial
              refine ⟨h1, ws, q1, by rw [Paired.length q2]; exact hz, ?_⟩
              refine hp mu2 _ ((ex.trans e2).trans e5) (hS2.put (u' := .dK []) hn2 e5 ⟨_, upd_same, kreps_merge (q2.mono e5) .nil⟩) _ (.loc hn2)
            · rw [if_neg hz] at hp
              exact hp.elim
        | _ => exact hp.elim
end
end Fa
namespace Fa
open PySem PySem.Spec PyProof.Rows L2
/-! ### a call leaves the old store alone, but for what it changed -/
def Trim (n : Nat) (S S' : Sto) : Prop := ∀ i, i < n → S'[i]? = S[i]? ∨ ∃ o, S'[i]? = some o ∧ ltO n o = true
open Classical in
noncomputable def gq (F : List D → M D) : List D → M D := fun ds S => match F ds S with
  | .ok d S' => if ltD' S.length d = true ∧ Trim S.length S S' then .ok d (S'.take S.length) else .ok d S'
  | .err x S' => if ltK S.length x.fs = true ∧ Trim S.length S S' then .err x (S'.take S.length) else .err x S'
  | .bad => .bad
section
variable {K : PySem.W.Frag} {mu l : List Addr} {H : Hp}
mutual
theorem lt_of_rep : ∀ {v : V} {d : D}, Rep K mu H v d → ltD' mu.length d = true
  | _, _, .non => rfl
  | _, _, .bl b => rfl
  | _, _, .int i => rfl
  | _, _, .str x => rfl
  | _, _, .ty n => rfl
  | _, _, .adr a => rfl
  | _, _, .loc h => by
    simp only [ltD', decide_eq_true_eq]
    exact (List.getElem?_eq_some_iff.mp h).1
  | _, _, .tup hd h r => by simpa [ltD'] using lt_of_reps r
  | _, _, .ktp h r => by simpa [ltD'] using lt_of_reps r
  | _, _, .ttp h r => by simpa [ltD'] using lt_of_reps r
  | _, _, .rls h r => by simpa [ltD'] using lt_of_reps r
  | _, _, .exn h0 h1 h2 h3 h4 h5 r => by simpa [ltD'] using lt_of_reps r
theorem lt_of_reps : ∀ {vs : List V} {ds : List D}, Reps K mu H vs ds → ltDs mu.length ds = true
  | _, _, .nil => rfl
  | _, _, .cons r t => by
    simp only [ltDs, Bool.and_eq_true]
    exact ⟨lt_of_rep r, lt_of_reps t⟩
end
theorem lt_of_kreps {κ : Type} : ∀ {s : List (κ × V)} {r : List (κ × D)}, KReps K mu H s r → ltK mu.length r = true
  | _, _, .nil => rfl
  | _, (_, _) :: _, .cons h t => by
    simp only [ltK, Bool.and_eq_true]
    exact ⟨lt_of_rep h.2, lt_of_kreps t⟩
theorem lt_of_morep {a : Addr} : ∀ {o : MO}, MoRep K mu H a o → ltO mu.length o = true
  | .lst _, ⟨vs, h, r⟩ => lt_of_reps r
  | .dct _, ⟨vs, h, r⟩ => lt_of_kreps r
  | .dcT _, ⟨vs, h, r⟩ => lt_of_kreps r
  | .ins _ _, ⟨C, dx, vs, hc, h, r⟩ => lt_of_kreps r
  | .tab _ _, _ => rfl
theorem hrep_trim {H2 : Hp} {S S2 : Sto} (hS : HRep K mu H S) (h : HRep K (mu ++ l) H2 S2) (ht : Trim mu.length S S2) : HRep K mu H2 (S2.take mu.length) := by
  have hl := h.len
  rw [List.length_append] at hl
  refine ⟨by rw [List.length_take]; omega, (List.nodup_append.mp h.nd).1, fun n o a e1 e2 => ?_⟩
  have hn : n < mu.length := (List.getElem?_eq_some_iff.mp e2).1
  rw [List.getElem?_take_of_lt hn] at e1
  have q := h.ob n o a e1 (by rw [List.getElem?_append_left hn]; exact e2)
  refine morep_lt ?_ q
  rcases ht n hn with z | ⟨o', z1, z2⟩
  · obtain ⟨o1, ho1, hm1⟩ := hS.obj e2
    rw [e1, ho1] at z
    cases z
    exact lt_of_morep hm1
  · rw [e1] at z1
    cases z1
    exact z2
theorem prom_gq {F : List D → M D} {vs : List V} {Q : VK} {E : XK} (h : prom K (gq F) vs H Q E) : prom K F vs H Q E := by
  obtain ⟨ds, mu, S, hS, hr, hp⟩ := h
  refine ⟨ds, mu, S, hS, hr, ?_⟩
  unfold gq at hp
  cases e : F ds S with
  | ok d S2 =>
    rw [e] at hp
    simp only at hp
    by_cases z : ltD' S.length d = true ∧ Trim S.length S S2
    · rw [if_pos z] at hp
      rw [hS.len] at hp z
      intro mu2 H2 ex h2 v rv
      obtain ⟨l, e1, _⟩ := id ex.pre
      subst e1
      exact hp mu H2 ex.cut (hrep_trim hS h2 z.2) v (rep_lt z.1 rv)
    · rw [if_neg z] at hp
      exact hp
  | err x S2 =>
    rw [e] at hp
    simp only at hp
    by_cases z : ltK S.length x.fs = true ∧ Trim S.length S S2
    · rw [if_pos z] at hp
      rw [hS.len] at hp z
      intro mu2 H2 cls dd ex h2 hx
      obtain ⟨l, e1, _⟩ := id ex.pre
      subst e1
      exact hp mu H2 cls dd ex.cut (hrep_trim hS h2 z.2) (xrep_lt z.1 hx)
    · rw [if_neg z] at hp
      exact hp
  | bad => rw [e] at hp; exact hp.elim
theorem fnG_gq {P : Program} {w : World} {mg : Str → Option Value} {base : Heap} {k : Nat} {f : Addr} {fd : FuncData} {ps : List Str} {F : List D → M D} (G : FnG P w K mg base k f fd ps F) : FnG P w K mg base k f fd ps (gq F) :=
  fun A outer s H ar us vs Q E hr hg e0 hb rv hl hp => G A outer s H ar us vs Q E hr hg e0 hb rv hl (prom_gq hp)
theorem gq_arity {n : Nat} {F : List D → M D} (h : arity n F) : arity n (gq F) := fun ds S hl => by
  unfold gq
  rw [h ds S hl]
end
theorem Trim.app {S l : Sto} : Trim S.length S (S ++ l) := fun i hi => .inl (List.getElem?_append_left hi)
/-- a call that makes new things alone -/
theorem gq_new {F : List D → M D} {ds : List D} {S l : Sto} {d : D} (h : F ds S = .ok d (S ++ l)) (hd : ltD' S.length d = true) : gq F ds S = .ok d S := by
  unfold gq
  rw [h]
  simp only
  rw [if_pos ⟨hd, Trim.app⟩]
  simp
theorem gq_set {F : List D → M D} {ds : List D} {S l : Sto} {d : D} {p : Nat} {o : MO} (h : F ds S = .ok d (S.set p o ++ l)) (hd : ltD' S.length d = true) (ho : ltO S.length o = true) : gq F ds S = .ok d (S.set p o) := by
  unfold gq
  rw [h]
  simp only
  have hl : (S.set p o).length = S.length := List.length_set ..
  have ht : Trim S.length S (S.set p o ++ l) := fun i hi => by
    rw [List.getElem?_append_left (by rw [hl]; exact hi)]
    by_cases e : p = i
    · subst e
      rw [List.getElem?_set_self hi]
      exact .inr ⟨o, rfl, ho⟩
    · rw [List.getElem?_set_ne e]
      exact .inl rfl
  rw [if_pos ⟨hd, ht⟩]
  have h2 : (S.set p o ++ l).take S.length = S.set p o := by
    rw [← hl]
    simp
  rw [h2]
theorem gq_err {F : List D → M D} {ds : List D} {S l : Sto} {x : Exn} (h : F ds S = .err x (S ++ l)) (hd : ltK S.length x.fs = true) : gq F ds S = .err x S := by
  unfold gq
  rw [h]
  simp only
  rw [if_pos ⟨hd, Trim.app⟩]
  simp
end Fa
namespace Fa
open PySem PySem.Spec PyProof.Rows L2
/-! ### more equations of running -/
section
variable (r : Env) (S : Sto) (d x y : D) (ds xs : List D) (a b c : Env → M D) (ms : Env → M (List D)) (i j : Nat)
def kCh1 (f g : D → D → M D) (b c : Env → M D) (r : Env) (x : D) : M D := bnd (b r) fun y => bnd (f x y) fun z => bnd (isBl z) fun k => if k = true then bnd (c r) fun w => g y w else ret (.bl false)
def kCh2 (f g : D → D → M D) (c : Env → M D) (r : Env) (x y : D) : M D := bnd (f x y) fun z => bnd (isBl z) fun k => if k = true then bnd (c r) fun w => g y w else ret (.bl false)
def kCh3 (g : D → D → M D) (c : Env → M D) (r : Env) (y z : D) : M D := bnd (isBl z) fun k => if k = true then bnd (c r) fun w => g y w else ret (.bl false)
theorem mChain_ap (f g : D → D → M D) : mChain f g a b c r S = bK (a r S) (kCh1 f g b c r) := id rfl
theorem kCh1_ap (f g : D → D → M D) : kCh1 f g b c r x S = bK (b r S) (kCh2 f g c r x) := id rfl
theorem kCh2_ap (f g : D → D → M D) : kCh2 f g c r x y S = bK (f x y S) (kCh3 g c r y) := id rfl
theorem kCh3_t (g : D → D → M D) : kCh3 g c r y (.bl true) S = bK (c r S) (g y) := id rfl
theorem kCh3_f (g : D → D → M D) : kCh3 g c r y (.bl false) S = .ok (.bl false) S := id rfl
def kSl1 (lo hi : Env → M (Option Int)) (r : Env) (x : D) : M D := bnd (lo r) fun l => bnd (hi r) fun u => slD x l u
def kSl2 (hi : Env → M (Option Int)) (r : Env) (x : D) (l : Option Int) : M D := bnd (hi r) fun u => slD x l u
theorem mSl_ap (lo hi : Env → M (Option Int)) : mSl a lo hi r S = bK (a r S) (kSl1 lo hi r) := id rfl
theorem kSl1_ap (lo hi : Env → M (Option Int)) : kSl1 lo hi r x S = bK (lo r S) (kSl2 hi r x) := id rfl
theorem kSl2_ap (hi : Env → M (Option Int)) (l : Option Int) : kSl2 hi r x l S = bK (hi r S) (slD x l) := id rfl
def kTl1 (lo hi : Env → M (Option Int)) (r : Env) (x : D) : M D := bnd (lo r) fun l => bnd (hi r) fun u => slT x l u
def kTl2 (hi : Env → M (Option Int)) (r : Env) (x : D) (l : Option Int) : M D := bnd (hi r) fun u => slT x l u
theorem mSlT_ap (lo hi : Env → M (Option Int)) : mSlT a lo hi r S = bK (a r S) (kTl1 lo hi r) := id rfl
theorem kTl1_ap (lo hi : Env → M (Option Int)) : kTl1 lo hi r x S = bK (lo r S) (kTl2 hi r x) := id rfl
theorem kTl2_ap (hi : Env → M (Option Int)) (l : Option Int) : kTl2 hi r x l S = bK (hi r S) (slT x l) := id rfl
theorem mP0_ap : mP0 r S = .ok none S := id rfl
theorem mP_ap : mP a r S = bK (a r S) intO := id rfl
theorem intO_ap (n : Int) : intO (.int n) S = .ok (some n) S := id rfl
theorem sl_t (lo hi : Option Int) : slD (.tup ds) lo hi S = .ok (.tup (cutD ds lo hi)) S := id rfl
theorem dfl_ap (F : List D → M D) : dfl F xs ds S = F (ds ++ xs) S := id rfl
def kMe1 (cn m : Str) (F : List D → M D) (a : Env → M (List D)) (r : Env) (x : D) : M D := bnd (isIns cn m x) fun _ => bnd (a r) fun xs => F (x :: xs)
def kMe2 (F : List D → M D) (a : Env → M (List D)) (r : Env) (x : D) (_ : Unit) : M D := bnd (a r) fun xs => F (x :: xs)
def kMe3 (F : List D → M D) (x : D) (xs : List D) : M D := F (x :: xs)
theorem mMeth_ap (cn m : Str) (F : List D → M D) : mMeth cn m F a ms r S = bK (a r S) (kMe1 cn m F ms r) := id rfl
theorem kMe1_ap (cn m : Str) (F : List D → M D) : kMe1 cn m F ms r x S = bK (isIns cn m x S) (kMe2 F ms r x) := id rfl
theorem kMe2_ap (F : List D → M D) : kMe2 F ms r x () S = bK (ms r S) (kMe3 F x) := id rfl
theorem kMe3_ap (F : List D → M D) : kMe3 F x xs S = F (x :: xs) S := id rfl
theorem isIns_l {n : Nat} {cn m : Str} {fs : List (Str × D)} (h : S[n]? = some (.ins cn fs)) (hf : fs.lookup m = none) : isIns cn m (.loc n) S = .ok () S := by
  unfold isIns
  simp only [h, if_true, hf]
theorem fld_l {n : Nat} {cs : List Str} {cn f : Str} {fs : List (Str × D)} {d : D} (h : S[n]? = some (.ins cn fs)) (hc : cn ∈ cs) (hf : fs.lookup f = some d) : fldD cs f (.loc n) S = .ok d S := by
  unfold fldD
  simp only [h, hc, if_true, hf]
theorem setF_l {n : Nat} {cs : List Str} {cn f : Str} {fs : List (Str × D)} (h : S[n]? = some (.ins cn fs)) (hc : cn ∈ cs) (hf : fs.length < 1000) : setF cs f (.loc n) d S = .ok () (S.set n (.ins cn (putFD f d fs))) := by
  unfold setF
  simp only [h, hc, hf, and_self, if_true]
def kF1 (cs : List Str) (f : Str) (d : D) (r : Env) (o : D) : M Env := bnd (setF cs f o d) fun _ => ret r
theorem gFld_ap (cs : List Str) (f : Str) : gFld cs f a d r S = bK (a r S) (kF1 cs f d r) := id rfl
theorem kF1_ap (cs : List Str) (f : Str) : kF1 cs f d r x S = bK (setF cs f x d S) (kSub3 r) := id rfl
def kSA1 (mi : Env → M D) (d : D) (r : Env) (o : D) : M Env := bnd (mi r) fun i => bnd (setA o i d) fun _ => ret r
def kSA2 (d : D) (r : Env) (o i : D) : M Env := bnd (setA o i d) fun _ => ret r
theorem gSubA_ap : gSubA a b d r S = bK (a r S) (kSA1 b d r) := id rfl
theorem kSA1_ap : kSA1 b d r x S = bK (b r S) (kSA2 d r x) := id rfl
theorem kSA2_ap : kSA2 d r x y S = bK (setA x y d S) (kSub3 r) := id rfl
def kPar3 (i j l : Nat) (ds : List D) (r : Env) (S : Sto) : Out := match ds with
  | [x, y, z] => .nx (((r.set i (some x)).set j (some y)).set l (some z)) S
  | _ => .bad
theorem sPar3_ap (l : Nat) : sPar3 i j l ms r S = oK (ms r S) (kPar3 i j l) r := bndO_ap r S ms _
theorem kPar3_ap (l : Nat) (z : D) : kPar3 i j l [x, y, z] r S = .nx (((r.set i (some x)).set j (some y)).set l (some z)) S := id rfl
def mkR (n : Nat) : Res D → Res D
  | .ok .non S' => .ok (.loc n) S'
  | .err x S' => .err x S'
  | _ => .bad
theorem mkD_ap (cn : Str) (F : List D → M D) : mkD cn F ds S = mkR S.length (F (.loc S.length :: ds) (S ++ [.ins cn []])) := by
  unfold mkD mkR
  cases F (.loc S.length :: ds) (S ++ [.ins cn []]) with
  | ok v S' => cases v <;> rfl
  | err x S' => rfl
  | bad => rfl
theorem mkR_ok : mkR i (.ok .non S) = .ok (.loc i) S := id rfl
theorem dct0D_ap : dct0D r S = .ok (.loc S.length) (S ++ [.dct []]) := id rfl
def kPr1 (b : Env → M D) (l : List ((Env → M D) × (Env → M D))) (r : Env) (x : D) : M (List (D × D)) := bnd (b r) fun y => bnd (mPairs l r) fun ps => ret ((x, y) :: ps)
def kPr2 (l : List ((Env → M D) × (Env → M D))) (r : Env) (x y : D) : M (List (D × D)) := bnd (mPairs l r) fun ps => ret ((x, y) :: ps)
def kPr3 (x y : D) (ps : List (D × D)) : M (List (D × D)) := ret ((x, y) :: ps)
theorem mPairs_nil : mPairs [] r S = .ok [] S := id rfl
theorem mPairs_cons (l : List ((Env → M D) × (Env → M D))) : mPairs ((a, b) :: l) r S = bK (a r S) (kPr1 b l r) := id rfl
theorem kPr1_ap (l : List ((Env → M D) × (Env → M D))) : kPr1 b l r x S = bK (b r S) (kPr2 l r x) := id rfl
theorem kPr2_ap (l : List ((Env → M D) × (Env → M D))) : kPr2 l r x y S = bK (mPairs l r S) (kPr3 x y) := id rfl
theorem kPr3_ap (ps : List (D × D)) : kPr3 x y ps S = .ok ((x, y) :: ps) S := id rfl
def dspR (n : Nat) : Res (List (D × D)) → Res D
  | .ok ps S2 => match S2[n]?, keyP ps with
    | some (.dct []), some kvs => if kvs.length ≤ 15 then .ok (.loc n) (S2.set n (.dct (mergeD [] kvs))) else .bad
    | _, _ => .bad
  | .err x S2 => .err x S2
  | .bad => .bad
theorem mDisp_ap (l : List ((Env → M D) × (Env → M D))) : mDisp l r S = dspR S.length (mPairs l r (S ++ [.dct []])) := by
  unfold mDisp dspR
  cases mPairs l r (S ++ [.dct []]) <;> rfl
theorem dsp_ok {n : Nat} {ps : List (D × D)} {kvs : List (Key × D)} (h1 : S[n]? = some (.dct [])) (h2 : keyP ps = some kvs) (h3 : kvs.length ≤ 15) : dspR n (.ok ps S) = .ok (.loc n) (S.set n (.dct (mergeD [] kvs))) := by
  unfold dspR
  simp only [h1, h2, h3, if_true]
theorem dget_l {n : Nat} {kvs : List (Key × D)} {k : D} {key : Key} (h : S[n]? = some (.dct kvs)) (hk : keyOf k = some key) : dget S (.loc n) k = some (valKD kvs key) := by
  unfold dget
  simp only [h, hk]
theorem ixA_d {n : Nat} {kvs : List (Key × D)} {k : D} {key : Key} {d : D} (h : S[n]? = some (.dct kvs)) (hk : keyOf k = some key) (hv : valKD kvs key = some d) : ixA (.loc n) k S = .ok d S := by
  unfold ixA
  rw [dget_l S h hk, hv]
theorem setA_d {n : Nat} {kvs : List (Key × D)} {k : D} {key : Key} (h : S[n]? = some (.dct kvs)) (hk : keyOf k = some key) (hz : kvs.length < sizeLine) : setA (.loc n) k d S = .ok () (S.set n (.dct (putKD kvs key d))) := by
  unfold setA putD
  simp only [h, hk, hz, if_true]
theorem inDA_d {n : Nat} {kvs : List (Key × D)} {k : D} {key : Key} (neg : Bool) (h : S[n]? = some (.dct kvs)) (hk : keyOf k = some key) : inDA neg k (.loc n) S = .ok (.bl (if neg then !(valKD kvs key).isSome else (valKD kvs key).isSome)) S := by
  unfold inDA
  rw [dget_l S h hk]
theorem len_d {n : Nat} {kvs : List (Key × D)} (h : S[n]? = some (.dct kvs)) : lenD [.loc n] S = .ok (.int kvs.length) S := by
  unfold lenD lenOf
  simp only [h]
theorem len_dT {n : Nat} {kvs : List (List Key × D)} (h : S[n]? = some (.dcT kvs)) : lenD [.loc n] S = .ok (.int kvs.length) S := by
  unfold lenD lenOf
  simp only [h]
theorem len_s (z : Str) (h : z.length ≤ sizeLine) : lenD [.str z] S = .ok (.int z.length) S := by
  unfold lenD lenOf
  simp only [h, if_true]
theorem tuple_l {n : Nat} {ds : List D} (h : S[n]? = some (.lst ds)) : tupleD [.loc n] S = .ok (.tup ds) S := by
  unfold tupleD itemsOf
  simp only [h]
theorem tuple_t : tupleD [.tup ds] S = .ok (.tup ds) S := id rfl
theorem list_l {n : Nat} {ds : List D} (h : S[n]? = some (.lst ds)) : listD [.loc n] S = .ok (.loc S.length) (S ++ [.lst ds]) := by
  unfold listD itemsOf
  simp only [h]
theorem list_t : listD [.tup ds] S = .ok (.loc S.length) (S ++ [.lst ds]) := id rfl
theorem sl_l {n : Nat} {ds : List D} (lo hi : Option Int) (h : S[n]? = some (.lst ds)) : slD (.loc n) lo hi S = .ok (.loc S.length) (S ++ [.lst (cutD ds lo hi)]) := by
  unfold slD
  simp only [h]
theorem src_s (z : Str) : srcOf (.str z) S = .ok (.txt z) S := id rfl
theorem src_k : srcOf (.ktp ds) S = .ok (.items ds) S := id rfl
theorem mZip_ap : mZip ms r S = bK (ms r S) zipOf := id rfl
theorem zip_tt : zipOf [.tup ds, .tup xs] S = .ok (.zip ds xs) S := id rfl
theorem add_nil_l (h : ds.length ≤ sizeLine) : addD (.tup []) (.tup ds) S = .ok (.tup ds) S := by
  rw [add_tt S [] ds (by simpa using h), List.nil_append]
end
/-! ### walks that change nothing -/
theorem lc_fm {src : Src} (items : List D) (p : D → Bool) (f : D → D) {g : Tg} {t : Env → M Bool} {e : Env → M D} {r : Env} {S0 : Sto} (hn : ∀ l i, nextD src i (S0 ++ l) = some items[i]?)
    (h : ∀ d ∈ items, ∀ l, ∃ r', g d r (S0 ++ l) = .ok r' (S0 ++ l) ∧ t r' (S0 ++ l) = .ok (p d) (S0 ++ l) ∧ (p d = true → e r' (S0 ++ l) = .ok (f d) (S0 ++ l))) (hz : items.length ≤ sizeLine) :
    lcGo src g t e S0.length r items.length 0 (S0 ++ [.lst []]) = .ok (.loc S0.length) (S0 ++ [.lst ((items.filter p).map f)]) := by
  have go : ∀ (k i : Nat), i + k = items.length → lcGo src g t e S0.length r k i (S0 ++ [.lst (((items.take i).filter p).map f)]) = .ok (.loc S0.length) (S0 ++ [.lst ((items.filter p).map f)]) := by
    intro k
    induction k with
    | zero =>
      intro i hi
      have e0 : items[i]? = none := List.getElem?_eq_none_iff.mpr (by omega)
      unfold lcGo
      rw [hn, e0, List.take_of_length_le (by omega)]
    | succ k ih =>
      intro i hi
      have hlt : i < items.length := by omega
      have e0 : items[i]? = some items[i] := List.getElem?_eq_getElem hlt
      obtain ⟨r', h1, h2, h3⟩ := h items[i] (List.getElem_mem hlt) [.lst (((items.take i).filter p).map f)]
      have et : items.take (i + 1) = items.take i ++ [items[i]] := by
        rw [List.take_add_one, e0]
        rfl
      unfold lcGo
      rw [hn, e0]
      simp only [h1, h2]
      cases hp : p items[i] with
      | true =>
        simp only [h3 hp]
        have hq : (S0 ++ [.lst (((items.take i).filter p).map f)])[S0.length]? = some (.lst (((items.take i).filter p).map f)) := at_end _ _
        rw [push_at _ hq (by
          rw [List.length_map]
          have := List.length_filter_le p (items.take i)
          rw [List.length_take] at this
          omega)]
        simp only [set_end]
        have := ih (i + 1) (by omega)
        rw [et, List.filter_append, List.map_append, List.filter_cons, if_pos hp] at this
        exact this
      | false =>
        simp only
        have := ih (i + 1) (by omega)
        rw [et, List.filter_append, List.filter_cons, if_neg (by rw [hp]; simp), List.filter_nil, List.append_nil] at this
        exact this
  simpa using go items.length 0 (by omega)
theorem mLc_fm {m : Env → M Src} {src : Src} (items : List D) (p : D → Bool) (f : D → D) {g : Tg} {t : Env → M Bool} {e : Env → M D} {vs : List Nat} {r : Env} {S S0 : Sto} (hm : m r S = .ok src S0) (ht : turns src S0 = items.length) (hn : ∀ l i, nextD src i (S0 ++ l) = some items[i]?)
    (h : ∀ d ∈ items, ∀ l, ∃ r', g d (wipeE r vs) (S0 ++ l) = .ok r' (S0 ++ l) ∧ t r' (S0 ++ l) = .ok (p d) (S0 ++ l) ∧ (p d = true → e r' (S0 ++ l) = .ok (f d) (S0 ++ l))) (hz : items.length ≤ sizeLine) :
    mLc m g t e vs r S = .ok (.loc S0.length) (S0 ++ [.lst ((items.filter p).map f)]) := by
  unfold mLc
  rw [bnd_ap, hm, bK_ok, ht]
  exact lc_fm items p f hn h hz
theorem mLc_map {m : Env → M Src} {src : Src} (items : List D) (f : D → D) {g : Tg} {e : Env → M D} {vs : List Nat} {r : Env} {S S0 : Sto} (hm : m r S = .ok src S0) (ht : turns src S0 = items.length) (hn : ∀ l i, nextD src i (S0 ++ l) = some items[i]?)
    (h : ∀ d ∈ items, ∀ l, ∃ r', g d (wipeE r vs) (S0 ++ l) = .ok r' (S0 ++ l) ∧ e r' (S0 ++ l) = .ok (f d) (S0 ++ l)) (hz : items.length ≤ sizeLine) :
    mLc m g tT e vs r S = .ok (.loc S0.length) (S0 ++ [.lst (items.map f)]) := by
  have := mLc_fm (t := tT) items (fun _ => true) f hm ht hn (fun d hd l => by
    obtain ⟨r', h1, h2⟩ := h d hd l
    exact ⟨r', h1, rfl, fun _ => h2⟩) hz
  rwa [List.filter_eq_self.mpr (by simp)] at this
theorem mLc_all {m : Env → M Src} {src : Src} (items : List D) (f : D → Bool) {g : Tg} {e : Env → M D} {vs : List Nat} {r : Env} {S S0 : Sto} (hm : m r S = .ok src S0) (ht : turns src S0 = items.length) (hn : ∀ l i, nextD src i (S0 ++ l) = some items[i]?)
    (h : ∀ d ∈ items, ∀ l, ∃ r', g d (wipeE r vs) (S0 ++ l) = .ok r' (S0 ++ l) ∧ e r' (S0 ++ l) = .ok (.bl (f d)) (S0 ++ l)) (hz : items.length ≤ sizeLine) :
    mA allD (mCons (mLc m g tT e vs) mNil) r S = .ok (.bl (items.all f)) (S0 ++ [.lst (items.map fun d => .bl (f d))]) := by
  rw [mA_ap, mCons_ap, mLc_map items (fun d => .bl (f d)) hm ht hn h hz, bK_ok, kCons_ap, mNil_ap, bK_ok, kCon_ap, bK_ok]
  exact all_map f items (at_end _ _)
theorem next_of_items (ds : List D) (l : Sto) (i : Nat) : nextD (.items ds) i l = some ds[i]? := id rfl
/-! dicts that are made by a walk -/
def putsK {κ : Type} [DecidableEq κ] (ks : List κ) : List (κ × D) := ks.foldl (fun acc k => putKD acc k (.bl true)) []
theorem putKD_keys {κ : Type} [DecidableEq κ] (kvs : List (κ × D)) (k : κ) (v : D) : (putKD kvs k v).map (·.1) = if k ∈ kvs.map (·.1) then kvs.map (·.1) else kvs.map (·.1) ++ [k] := by
  unfold putKD
  have hany : (kvs.any fun kv => decide (kv.1 = k)) = true ↔ k ∈ kvs.map (·.1) := by
    simp only [List.any_eq_true, decide_eq_true_eq, List.mem_map]
  by_cases h : k ∈ kvs.map (·.1)
  · rw [if_pos (hany.mpr h), if_pos h, List.map_map]
    apply List.map_congr_left
    intro p _
    show (if p.1 = k then (p.1, v) else p).1 = p.1
    split <;> rfl
  · rw [if_neg (fun z => h (hany.mp z)), if_neg h, List.map_append]
    rfl
theorem putsK_len {κ : Type} [DecidableEq κ] (ks : List κ) : ((putsK ks).length = ks.length ↔ ks.Nodup) ∧ (putsK ks).length ≤ ks.length := by
  have go : ∀ (ks : List κ) (acc : List (κ × D)), (acc.map (·.1)).Nodup →
      ((ks.foldl (fun acc k => putKD acc k (.bl true)) acc).length = acc.length + ks.length ↔ (acc.map (·.1) ++ ks).Nodup) ∧ (ks.foldl (fun acc k => putKD acc k (.bl true)) acc).length ≤ acc.length + ks.length := by
    intro ks
    induction ks with
    | nil =>
      intro acc ha
      simp [ha]
    | cons k ks ih =>
      intro acc ha
      rw [List.foldl_cons]
      have hk := putKD_keys acc k (.bl true)
      have hl : (putKD acc k (.bl true)).length = ((putKD acc k (.bl true)).map (·.1)).length := by simp
      by_cases h : k ∈ acc.map (·.1)
      · rw [if_pos h] at hk
        have hn : ((putKD acc k (.bl true)).map (·.1)).Nodup := by rw [hk]; exact ha
        have hl2 : (putKD acc k (.bl true)).length = acc.length := by rw [hl, hk]; simp
        obtain ⟨i1, i2⟩ := ih _ hn
        rw [hl2] at i2 i1
        refine ⟨⟨fun z => ?_, fun z => ?_⟩, by rw [List.length_cons]; omega⟩
        · rw [List.length_cons] at z
          omega
        · rw [List.nodup_append] at z
          exact absurd rfl (z.2.2 k h k (by simp))
      · rw [if_neg h] at hk
        have hn : ((putKD acc k (.bl true)).map (·.1)).Nodup := by
          rw [hk, List.nodup_append]
          refine ⟨ha, by simp, fun x hx y hy z => ?_⟩
          simp at hy
          subst hy z
          exact h hx
        have hl2 : (putKD acc k (.bl true)).length = acc.length + 1 := by rw [hl, hk]; simp
        obtain ⟨i1, i2⟩ := ih _ hn
        rw [hl2, hk] at i1
        rw [hl2] at i2
        rw [List.length_cons]
        refine ⟨?_, by omega⟩
        rw [show acc.length + (ks.length + 1) = acc.length + 1 + ks.length by omega, i1, List.append_assoc]
        rfl
  have := go ks [] (by simp)
  simpa [putsK] using this
theorem dc_keys {src : Src} (items : List D) (kf : D → Key) (kd : D → D) {g : Tg} {ek ev : Env → M D} {r : Env} {S0 : Sto} (hn : ∀ l i, nextD src i (S0 ++ l) = some items[i]?) (hk : ∀ d ∈ items, keyOf (kd d) = some (kf d))
    (h : ∀ d ∈ items, ∀ l, ∃ r', g d r (S0 ++ l) = .ok r' (S0 ++ l) ∧ ek r' (S0 ++ l) = .ok (kd d) (S0 ++ l) ∧ ev r' (S0 ++ l) = .ok (.bl true) (S0 ++ l)) (hz : items.length ≤ sizeLine) :
    dcGo src g tT ek ev S0.length r items.length 0 (S0 ++ [.dct []]) = .ok (.loc S0.length) (S0 ++ [.dct (putsK (items.map kf))]) := by
  have go : ∀ (k i : Nat), i + k = items.length → dcGo src g tT ek ev S0.length r k i (S0 ++ [.dct (putsK ((items.take i).map kf))]) = .ok (.loc S0.length) (S0 ++ [.dct (putsK (items.map kf))]) := by
    intro k
    induction k with
    | zero =>
      intro i hi
      have e0 : items[i]? = none := List.getElem?_eq_none_iff.mpr (by omega)
      unfold dcGo
      rw [hn, e0, List.take_of_length_le (by omega)]
    | succ k ih =>
      intro i hi
      have hlt : i < items.length := by omega
      have e0 : items[i]? = some items[i] := List.getElem?_eq_getElem hlt
      obtain ⟨r', h1, h2, h3⟩ := h items[i] (List.getElem_mem hlt) [.dct (putsK ((items.take i).map kf))]
      have et : items.take (i + 1) = items.take i ++ [items[i]] := by
        rw [List.take_add_one, e0]
        rfl
      unfold dcGo
      rw [hn, e0]
      simp only [h1, show tT r' (S0 ++ [.dct (putsK ((items.take i).map kf))]) = .ok true (S0 ++ [.dct (putsK ((items.take i).map kf))]) from rfl, h2, h3]
      have hq : (S0 ++ [.dct (putsK ((items.take i).map kf))])[S0.length]? = some (.dct (putsK ((items.take i).map kf))) := at_end _ _
      have hl := (putsK_len ((items.take i).map kf)).2
      rw [List.length_map, List.length_take] at hl
      have hp : putD S0.length (kd items[i]) (.bl true) (S0 ++ [.dct (putsK ((items.take i).map kf))]) = some (S0 ++ [.dct (putKD (putsK ((items.take i).map kf)) (kf items[i]) (.bl true))]) := by
        unfold putD
        simp only [hq, hk _ (List.getElem_mem hlt), show (putsK ((items.take i).map kf)).length < sizeLine by omega, if_true, set_end]
      simp only [hp]
      have := ih (i + 1) (by omega)
      rw [et, List.map_append] at this
      unfold putsK at this ⊢
      rw [List.foldl_append] at this
      exact this
  simpa [putsK] using go items.length 0 (by omega)
theorem mDc_keys {m : Env → M Src} {src : Src} (items : List D) (kf : D → Key) (kd : D → D) {g : Tg} {ek ev : Env → M D} {vs : List Nat} {r : Env} {S S0 : Sto} (hm : m r S = .ok src S0) (ht : turns src S0 = items.length) (hn : ∀ l i, nextD src i (S0 ++ l) = some items[i]?) (hk : ∀ d ∈ items, keyOf (kd d) = some (kf d))
    (h : ∀ d ∈ items, ∀ l, ∃ r', g d (wipeE r vs) (S0 ++ l) = .ok r' (S0 ++ l) ∧ ek r' (S0 ++ l) = .ok (kd d) (S0 ++ l) ∧ ev r' (S0 ++ l) = .ok (.bl true) (S0 ++ l)) (hz : items.length ≤ sizeLine) :
    mDc false m g tT ek ev vs r S = .ok (.loc S0.length) (S0 ++ [.dct (putsK (items.map kf))]) := by
  unfold mDc
  rw [bnd_ap, hm, bK_ok, ht]
  exact dc_keys items kf kd hn hk h hz
theorem dcT_keys {src : Src} (items : List D) (kf : D → List Key) (kd : D → List D) {g : Tg} {ek ev : Env → M D} {r : Env} {S0 : Sto} (hn : ∀ l i, nextD src i (S0 ++ l) = some items[i]?) (hk : ∀ d ∈ items, keysOf (kd d) = some (kf d))
    (h : ∀ d ∈ items, ∀ l, ∃ r', g d r (S0 ++ l) = .ok r' (S0 ++ l) ∧ ek r' (S0 ++ l) = .ok (.ttp (kd d)) (S0 ++ l) ∧ ev r' (S0 ++ l) = .ok (.bl true) (S0 ++ l)) (hz : items.length ≤ sizeLine) :
    dcGo src g tT ek ev S0.length r items.length 0 (S0 ++ [.dcT []]) = .ok (.loc S0.length) (S0 ++ [.dcT (putsK (items.map kf))]) := by
  have go : ∀ (k i : Nat), i + k = items.length → dcGo src g tT ek ev S0.length r k i (S0 ++ [.dcT (putsK ((items.take i).map kf))]) = .ok (.loc S0.length) (S0 ++ [.dcT (putsK (items.map kf))]) := by
    intro k
    induction k with
    | zero =>
      intro i hi
      have e0 : items[i]? = none := List.getElem?_eq_none_iff.mpr (by omega)
      unfold dcGo
      rw [hn, e0, List.take_of_length_le (by omega)]
    | succ k ih =>
      intro i hi
      have hlt : i < items.length := by omega
      have e0 : items[i]? = some items[i] := List.getElem?_eq_getElem hlt
      obtain ⟨r', h1, h2, h3⟩ := h items[i] (List.getElem_mem hlt) [.dcT (putsK ((items.take i).map kf))]
      have et : items.take (i + 1) = items.take i ++ [items[i]] := by
        rw [List.take_add_one, e0]
        rfl
      unfold dcGo
      rw [hn, e0]
      simp only [h1, show tT r' (S0 ++ [.dcT (putsK ((items.take i).map kf))]) = .ok true (S0 ++ [.dcT (putsK ((items.take i).map kf))]) from rfl, h2, h3]
      have hq : (S0 ++ [.dcT (putsK ((items.take i).map kf))])[S0.length]? = some (.dcT (putsK ((items.take i).map kf))) := at_end _ _
      have hl := (putsK_len ((items.take i).map kf)).2
      rw [List.length_map, List.length_take] at hl
      have hp : putD S0.length (.ttp (kd items[i])) (.bl true) (S0 ++ [.dcT (putsK ((items.take i).map kf))]) = some (S0 ++ [.dcT (putKD (putsK ((items.take i).map kf)) (kf items[i]) (.bl true))]) := by
        unfold putD
        simp only [hq, hk _ (List.getElem_mem hlt), show (putsK ((items.take i).map kf)).length < sizeLine by omega, if_true, set_end]
      simp only [hp]
      have := ih (i + 1) (by omega)
      rw [et, List.map_append] at this
      unfold putsK at this ⊢
      rw [List.foldl_append] at this
      exact this
  simpa [putsK] using go items.length 0 (by omega)
theorem mDcT_keys {m : Env → M Src} {src : Src} (items : List D) (kf : D → List Key) (kd : D → List D) {g : Tg} {ek ev : Env → M D} {vs : List Nat} {r : Env} {S S0 : Sto} (hm : m r S = .ok src S0) (ht : turns src S0 = items.length) (hn : ∀ l i, nextD src i (S0 ++ l) = some items[i]?) (hk : ∀ d ∈ items, keysOf (kd d) = some (kf d))
    (h : ∀ d ∈ items, ∀ l, ∃ r', g d (wipeE r vs) (S0 ++ l) = .ok r' (S0 ++ l) ∧ ek r' (S0 ++ l) = .ok (.ttp (kd d)) (S0 ++ l) ∧ ev r' (S0 ++ l) = .ok (.bl true) (S0 ++ l)) (hz : items.length ≤ sizeLine) :
    mDc true m g tT ek ev vs r S = .ok (.loc S0.length) (S0 ++ [.dcT (putsK (items.map kf))]) := by
  unfold mDc
  rw [bnd_ap, hm, bK_ok, ht]
  exact dcT_keys items kf kd hn hk h hz
/-! ### the values that a law hands in -/
mutual
def okD (S : Sto) : D → Bool
  | .non | .bl _ | .int _ => true
  | .str z => decide (z.length ≤ 1000)
  | .tup ds => decide (ds.length ≤ 1000) && okDs S ds
  | .loc n => match S[n]? with
    | some (.lst _) => true
    | some (.dct _) => true
    | _ => false
  | _ => false
def okDs (S : Sto) : List D → Bool
  | [] => true
  | d :: ds => okD S d && okDs S ds
end
theorem okDs_iff {S : Sto} : ∀ {ds : List D}, okDs S ds = true ↔ ∀ d ∈ ds, okD S d = true
  | [] => by simp [okDs]
  | d :: ds => by simp only [okDs, Bool.and_eq_true, okDs_iff (ds := ds), List.mem_cons, forall_eq_or_imp]
theorem okD_tup {S : Sto} {ds : List D} (h : okD S (.tup ds) = true) : ds.length ≤ 1000 ∧ ∀ d ∈ ds, okD S d = true := by
  simp only [okD, Bool.and_eq_true, decide_eq_true_eq] at h
  exact ⟨h.1, okDs_iff.mp h.2⟩
theorem okD_of {S : Sto} {ds : List D} (h1 : ds.length ≤ 1000) (h : ∀ d ∈ ds, okD S d = true) : okD S (.tup ds) = true := by
  simp only [okD, Bool.and_eq_true, decide_eq_true_eq]
  exact ⟨h1, okDs_iff.mpr h⟩
mutual
theorem okD_app {S l : Sto} : ∀ {d : D}, okD S d = true → okD (S ++ l) d = true
  | .non, _ | .bl _, _ | .int _, _ => rfl
  | .str z, h => h
  | .tup ds, h => by
    simp only [okD, Bool.and_eq_true] at h ⊢
    exact ⟨h.1, okDs_app h.2⟩
  | .loc n, h => by
    unfold okD at h ⊢
    cases e : S[n]? with
    | none => rw [e] at h; cases h
    | some o =>
      rw [e] at h
      rw [at_old e]
      exact h
theorem okDs_app {S l : Sto} : ∀ {ds : List D}, okDs S ds = true → okDs (S ++ l) ds = true
  | [], _ => rfl
  | d :: ds, h => by
    simp only [okDs, Bool.and_eq_true] at h ⊢
    exact ⟨okD_app h.1, okDs_app h.2⟩
end
def isTup : D → Bool
  | .tup _ => true
  | _ => false
def isStr : D → Bool
  | .str _ => true
  | _ => false
def isBoo : D → Bool
  | .bl _ => true
  | _ => false
def isNum : D → Bool
  | .int _ => true
  | .bl _ => true
  | _ => false
theorem isi_tup {S : Sto} {v : D} (h : okD S v = true) : isiD [v, .ty "tuple"] S = .ok (.bl (isTup v)) S := by
  cases v with
  | loc n =>
    unfold okD at h
    unfold isiD tyD
    cases e : S[n]? with
    | none => rw [e] at h; cases h
    | some o => cases o <;> first | (simp only [e]; rfl) | (simp [e] at h)
  | _ => first | rfl | (simp [okD] at h)
theorem isi_str {S : Sto} {v : D} (h : okD S v = true) : isiD [v, .ty "str"] S = .ok (.bl (isStr v)) S := by
  cases v with
  | loc n =>
    unfold okD at h
    unfold isiD tyD
    cases e : S[n]? with
    | none => rw [e] at h; cases h
    | some o => cases o <;> first | (simp only [e]; rfl) | (simp [e] at h)
  | _ => first | rfl | (simp [okD] at h)
theorem isi_int {S : Sto} {v : D} (h : okD S v = true) : isiD [v, .ty "int"] S = .ok (.bl (isNum v)) S := by
  cases v with
  | loc n =>
    unfold okD at h
    unfold isiD tyD
    cases e : S[n]? with
    | none => rw [e] at h; cases h
    | some o => cases o <;> first | (simp only [e]; rfl) | (simp [e] at h)
  | _ => first | rfl | (simp [okD] at h)
theorem isi_bool {S : Sto} {v : D} (h : okD S v = true) : isiD [v, .ty "bool"] S = .ok (.bl (isBoo v)) S := by
  cases v with
  | loc n =>
    unfold okD at h
    unfold isiD tyD
    cases e : S[n]? with
    | none => rw [e] at h; cases h
    | some o => cases o <;> first | (simp only [e]; rfl) | (simp [e] at h)
  | _ => first | rfl | (simp [okD] at h)
end Fa
namespace Fa
open PySem PySem.Spec PyProof.Rows L2
/-! ### t == () -/
section
variable {K : PySem.W.Frag} {X : Cx}
def rEqE (K : PySem.W.Frag) : R2 := fun x y H Q => (∃ a b xs, x = .ref a ∧ y = .ref b ∧ SqT K H a xs ∧ SqT K H b [] ∧ Q (.bl xs.isEmpty) H) ∨ rEqA K x y H Q
theorem op_eqE (hu : X.A.units + 64 < cLine) : OpR X (compareOp .Eq) (rEqE X.K) := OpR.or (fun pins s σ H x y v u Q I rx ry h => by
  obtain ⟨a, b, xs, rfl, rfl, ha, hb, q⟩ := h
  cases rx
  cases ry
  obtain ⟨its, r1, p1, _⟩ := I.tuple ha
  obtain ⟨its2, r2, p2, _⟩ := I.tuple hb
  cases r2
  have e : ((List.range (min its.toArray.size ([] : List Value).toArray.size)).all (fun _ => true) && its.toArray.size == ([] : List Value).toArray.size) = xs.isEmpty := by
    have := r1.length
    cases xs with
    | nil =>
      cases r1
      rfl
    | cons x xs =>
      cases r1
      simp
  refine SeqAt.RcAt.tuples (e := fun _ => true) p1 p2 (by omega) (fun j h1 h2 => absurd h2 (by simp)) X.prog X.w _ _ ?_
  rw [e]
  exact ⟨.bl _, H, I, rfl, q⟩) (op_eqA hu)
def eqE : D → D → M D
  | .tup ds, .tup [] => ret (.bl ds.isEmpty)
  | x, y => eqB false x y
theorem o_eqE : Op2 K (rEqE K) eqE := by
  intro W σ mu H S x y v w Q hS rx ry hp
  unfold eqE at hp
  split at hp
  · rename_i ds
    cases rx with
    | tup hd h r =>
      cases ry with
      | tup hd' h' r' =>
        cases r'
        refine .inl ⟨_, _, _, rfl, rfl, sqT_t h, sqT_t h', ?_⟩
        have h3 := hp mu H Ext.refl hS (.bl ds.isEmpty) (.bl _)
        cases r with
        | nil => exact h3
        | cons _ _ => exact h3
  · exact .inr (o_eq W σ mu H S _ _ v w Q hS rx ry hp)
theorem eqE_t (ds : List D) (S : Sto) : eqE (.tup ds) (.tup []) S = .ok (.bl ds.isEmpty) S := id rfl
end
end Fa
namespace Fa
open PySem PySem.Spec PyProof.Rows L2
theorem gq_new0 {F : List D → M D} {ds : List D} {S : Sto} {d : D} (h : F ds S = .ok d S) (hd : ltD' S.length d = true) : gq F ds S = .ok d S := gq_new (l := []) (by rw [h, List.append_nil]) hd
theorem flats_strs : ∀ ns : List Str, flats (ns.map D.str) = some (ns.map V.str)
  | [] => rfl
  | n :: ns => by
    show (match flat1 (.str n), flats (ns.map D.str) with
      | some v, some vs => some (v :: vs)
      | _, _ => none) = _
    rw [flats_strs ns]
    rfl
theorem inV_strs (z : Str) : ∀ ns : List Str, inV (.str z) (ns.map V.str) = decide (z ∈ ns)
  | [] => by simp [inV]
  | n :: ns => by
    have := inV_strs z ns
    unfold inV at this ⊢
    rw [List.map_cons, List.any_cons, this]
    by_cases h : n = z
    · subst h
      simp [eqV]
    · have h' : ¬ z = n := fun e => h e.symm
      have : (n == z) = false := beq_eq_false_iff_ne.mpr h
      simp only [eqV, this, List.mem_cons, h', false_or, Bool.false_or]
theorem in_strs (neg : Bool) (z : Str) (ns : List Str) (S : Sto) : inD neg (.str z) (.tup (ns.map D.str)) S = .ok (.bl (if neg then !decide (z ∈ ns) else decide (z ∈ ns))) S := by
  show (match flat1 (.str z), (some (ns.map D.str)).bind flats with
    | some v, some vs => Res.ok (D.bl (if neg then !inV v vs else inV v vs)) S
    | _, _ => _) = _
  rw [Option.bind_some, flats_strs]
  show Res.ok (D.bl (if neg then !inV (.str z) (ns.map V.str) else inV (.str z) (ns.map V.str))) S = _
  rw [inV_strs]
theorem in_strsK (neg : Bool) (z : Str) (ns : List Str) (S : Sto) : inD neg (.str z) (.ktp (ns.map D.str)) S = .ok (.bl (if neg then !decide (z ∈ ns) else decide (z ∈ ns))) S := by
  show (match flat1 (.str z), (some (ns.map D.str)).bind flats with
    | some v, some vs => Res.ok (D.bl (if neg then !inV v vs else inV v vs)) S
    | _, _ => _) = _
  rw [Option.bind_some, flats_strs]
  show Res.ok (D.bl (if neg then !inV (.str z) (ns.map V.str) else inV (.str z) (ns.map V.str))) S = _
  rw [inV_strs]
theorem in_sign (neg : Bool) (c : Nat) (z : Str) (S : Sto) : inD neg (.str ⟨#[c]⟩) (.str z) S = .ok (.bl (if neg then !decide (c ∈ z.cps.toList) else decide (c ∈ z.cps.toList))) S := id rfl
theorem ix_tn {ds : List D} {k : Nat} {d : D} (S : Sto) (h : ds[k]? = some d) : ixD (.tup ds) (.int (k : Int)) S = .ok d S := ix_t S (atI_nat h)
theorem all_at {n : Nat} {S : Sto} (f : D → Bool) (xs : List D) (h : S[n]? = some (.lst (xs.map fun x => .bl (f x)))) : allD [.loc n] S = .ok (.bl (xs.all f)) S := all_map f xs h
theorem nextD_txt (z : Str) (i : Nat) (S : Sto) : nextD (.txt z) i S = some (z.cps.toList.map fun c => D.str ⟨#[c]⟩)[i]? := by
  show some (z.cps[i]?.map fun c => D.str ⟨#[c]⟩) = _
  rw [List.getElem?_map]
  congr 2
  simp
def kTM (f : D → List D → M D) (a : Env → M (List D)) (r : Env) (x : D) : M D := match x with
  | .ktp _ => bnd (a r) fun xs => f x xs
  | .tup _ => bnd (a r) fun xs => f x xs
  | _ => fail
theorem mTM_ap (f : D → List D → M D) (o : Env → M D) (a : Env → M (List D)) (r : Env) (S : Sto) : mTM f o a r S = bK (o r S) (kTM f a r) := by
  unfold mTM kTM
  rw [bnd_ap]
  all_goals congr 1
theorem kTM_k (f : D → List D → M D) (a : Env → M (List D)) (r : Env) (ds : List D) (S : Sto) : kTM f a r (.ktp ds) S = bK (a r S) (f (.ktp ds)) := id rfl
theorem kTM_t (f : D → List D → M D) (a : Env → M (List D)) (r : Env) (ds : List D) (S : Sto) : kTM f a r (.tup ds) S = bK (a r S) (f (.tup ds)) := id rfl
theorem idx_k {ds : List D} {z : Str} {j : Nat} (S : Sto) (h : (strsOf ds).bind (seek z) = some j) : idxA (.ktp ds) [.str z] S = .ok (.int j) S := by
  unfold idxA
  simp only [h]
  rfl
theorem idx_t {ds : List D} {z : Str} {j : Nat} (S : Sto) (h : (strsOf ds).bind (seek z) = some j) : idxA (.tup ds) [.str z] S = .ok (.int j) S := by
  unfold idxA
  simp only [h]
  rfl
theorem nc0 : ((0 : Nat) : Int) = 0 := id rfl
theorem nc1 : ((1 : Nat) : Int) = 1 := id rfl
theorem nc2 : ((2 : Nat) : Int) = 2 := id rfl
theorem nc3 : ((3 : Nat) : Int) = 3 := id rfl
theorem nc4 : ((4 : Nat) : Int) = 4 := id rfl
theorem nc5 : ((5 : Nat) : Int) = 5 := id rfl
theorem nc6 : ((6 : Nat) : Int) = 6 := id rfl
theorem nc7 : ((7 : Nat) : Int) = 7 := id rfl
theorem nc8 : ((8 : Nat) : Int) = 8 := id rfl
theorem nc9 : ((9 : Nat) : Int) = 9 := id rfl
theorem nc10 : ((10 : Nat) : Int) = 10 := id rfl
theorem nc11 : ((11 : Nat) : Int) = 11 := id rfl
theorem nc12 : ((12 : Nat) : Int) = 12 := id rfl
theorem nc13 : ((13 : Nat) : Int) = 13 := id rfl
theorem nc14 : ((14 : Nat) : Int) = 14 := id rfl
theorem nc15 : ((15 : Nat) : Int) = 15 := id rfl
end Fa
namespace Fa
open PySem PySem.Spec PyProof.Rows L2
/-! ### xs == [], xs != [], t != () -/
section
variable {K : PySem.W.Frag} {X : Cx}
def rEq0 (K : PySem.W.Frag) : R2 := fun x y H Q => (∃ a b xs, x = .ref a ∧ y = .ref b ∧ SqL K H a xs ∧ SqL K H b [] ∧ Q (.bl xs.isEmpty) H) ∨ rEqE K x y H Q
def rNe0 (K : PySem.W.Frag) : R2 := fun x y H Q => (∃ a b xs, x = .ref a ∧ y = .ref b ∧ SqL K H a xs ∧ SqL K H b [] ∧ Q (.bl (!xs.isEmpty)) H) ∨ (∃ a b xs, x = .ref a ∧ y = .ref b ∧ SqT K H a xs ∧ SqT K H b [] ∧ Q (.bl (!xs.isEmpty)) H) ∨ rNeA K x y H Q
theorem op_eq0 (hu : X.A.units + 64 < cLine) : OpR X (compareOp .Eq) (rEq0 X.K) := OpR.or (fun pins s σ H x y v u Q I rx ry h => by
  obtain ⟨a, b, xs, rfl, rfl, ha, hb, q⟩ := h
  cases rx
  cases ry
  obtain ⟨its, r1, p1, _⟩ := I.list ha
  obtain ⟨its2, r2, p2, _⟩ := I.list hb
  cases r2
  cases xs with
  | nil =>
    cases r1
    exact SeqAt.RcAt.lists (e := fun _ => true) p1.isList p2.isList rfl (by omega) (fun j h1 h2 => absurd h2 (by simp)) X.prog X.w _ _ ⟨.bl true, H, I, rfl, q⟩
  | cons x xs =>
    cases r1
    exact SeqAt.RcAt.lists_lengths p1.isList p2.isList (by simp) (by omega) X.prog X.w _ _ ⟨.bl false, H, I, rfl, q⟩) (op_eqE hu)
theorem op_ne0 (hu : X.A.units + 64 < cLine) : OpR X (compareOp .NotEq) (rNe0 X.K) := OpR.or (fun pins s σ H x y v u Q I rx ry h => by
  obtain ⟨a, b, xs, rfl, rfl, ha, hb, q⟩ := h
  cases rx
  cases ry
  obtain ⟨its, r1, p1, _⟩ := I.list ha
  obtain ⟨its2, r2, p2, _⟩ := I.list hb
  cases r2
  cases xs with
  | nil =>
    cases r1
    exact SeqAt.RcNeAt.lists (e := fun _ => true) p1.isList p2.isList rfl (by omega) (fun j h1 h2 => absurd h2 (by simp)) X.prog X.w _ _ ⟨.bl false, H, I, rfl, q⟩
  | cons x xs =>
    cases r1
    exact SeqAt.RcNeAt.lists_lengths p1.isList p2.isList (by simp) (by omega) X.prog X.w _ _ ⟨.bl true, H, I, rfl, q⟩) (OpR.or (fun pins s σ H x y v u Q I rx ry h => by
  obtain ⟨a, b, xs, rfl, rfl, ha, hb, q⟩ := h
  cases rx
  cases ry
  obtain ⟨its, r1, p1, _⟩ := I.tuple ha
  obtain ⟨its2, r2, p2, _⟩ := I.tuple hb
  cases r2
  have e : (!((List.range (min its.toArray.size ([] : List Value).toArray.size)).all (fun _ => true) && its.toArray.size == ([] : List Value).toArray.size)) = !xs.isEmpty := by
    cases xs with
    | nil =>
      cases r1
      rfl
    | cons x xs =>
      cases r1
      simp
  refine SeqAt.RcNeAt.tuples (e := fun _ => true) p1 p2 (by omega) (fun j h1 h2 => absurd h2 (by simp)) X.prog X.w _ _ ?_
  rw [e]
  exact ⟨.bl _, H, I, rfl, q⟩) (op_neA hu))
def eq0 (neg : Bool) : D → D → M D := fun x y S => match lstAt S x, lstAt S y with
  | some (_, xs), some (_, []) => .ok (.bl (if neg then !xs.isEmpty else xs.isEmpty)) S
  | _, _ => match x, y with
    | .tup ds, .tup [] => .ok (.bl (if neg then !ds.isEmpty else ds.isEmpty)) S
    | x, y => eqB neg x y S
theorem reps_emp {mu : List Addr} {H : Hp} {vs : List V} {ds : List D} (r : Reps K mu H vs ds) : ds.isEmpty = vs.isEmpty := by
  cases r <;> rfl
theorem o_eq0 : Op2 K (rEq0 K) (eq0 false) := by
  intro W σ mu H S x y v w Q hS rx ry hp
  unfold eq0 at hp
  split at hp
  · rename_i n xs m e1 e2
    obtain ⟨a, vs, rfl, rfl, _, _, h1, r1⟩ := lstAt_of hS rx e1
    obtain ⟨b, ws, rfl, rfl, _, _, h2, r2⟩ := lstAt_of hS ry e2
    cases r2
    refine .inl ⟨a, b, vs, rfl, rfl, .inl (.inl h1), .inl (.inl h2), ?_⟩
    rw [← reps_emp r1]
    exact hp mu H Ext.refl hS _ (.bl _)
  · split at hp
    · rename_i ds _
      cases rx with
      | tup hd h r =>
        cases ry with
        | tup hd' h' r' =>
          cases r'
          refine .inr (.inl ⟨_, _, _, rfl, rfl, sqT_t h, sqT_t h', ?_⟩)
          rw [← reps_emp r]
          exact hp mu H Ext.refl hS _ (.bl _)
    · exact .inr (.inr (o_eq W σ mu H S _ _ v w Q hS rx ry hp))
theorem o_ne0 : Op2 K (rNe0 K) (eq0 true) := by
  intro W σ mu H S x y v w Q hS rx ry hp
  unfold eq0 at hp
  split at hp
  · rename_i n xs m e1 e2
    obtain ⟨a, vs, rfl, rfl, _, _, h1, r1⟩ := lstAt_of hS rx e1
    obtain ⟨b, ws, rfl, rfl, _, _, h2, r2⟩ := lstAt_of hS ry e2
    cases r2
    refine .inl ⟨a, b, vs, rfl, rfl, .inl (.inl h1), .inl (.inl h2), ?_⟩
    rw [← reps_emp r1]
    exact hp mu H Ext.refl hS _ (.bl _)
  · split at hp
    · rename_i ds _
      cases rx with
      | tup hd h r =>
        cases ry with
        | tup hd' h' r' =>
          cases r'
          refine .inr (.inl ⟨_, _, _, rfl, rfl, sqT_t h, sqT_t h', ?_⟩)
          rw [← reps_emp r]
          exact hp mu H Ext.refl hS _ (.bl _)
    · exact .inr (.inr (o_ne W σ mu H S _ _ v w Q hS rx ry hp))
theorem eq0_l {n m : Nat} {S : Sto} {xs : List D} (neg : Bool) (h : S[n]? = some (.lst xs)) (h2 : S[m]? = some (.lst [])) : eq0 neg (.loc n) (.loc m) S = .ok (.bl (if neg then !xs.isEmpty else xs.isEmpty)) S := by
  unfold eq0
  rw [lstAt_l h, lstAt_l h2]
theorem eq0_t (neg : Bool) (ds : List D) (S : Sto) : eq0 neg (.tup ds) (.tup []) S = .ok (.bl (if neg then !ds.isEmpty else ds.isEmpty)) S := id rfl
end
theorem gT_tt (k : List D → Env → M Env) (ds : List D) (r : Env) (S : Sto) : gT k (.ttp ds) r S = k ds r S := id rfl
/-- a call that changes things in place alone -/
theorem gq_same {F : List D → M D} {ds : List D} {S S' : Sto} {d : D} (h : F ds S = .ok d S') (hl : S'.length = S.length) (hd : ltD' S.length d = true) (ht : Trim S.length S S') : gq F ds S = .ok d S' := by
  unfold gq
  rw [h]
  simp only
  rw [if_pos ⟨hd, ht⟩, List.take_of_length_le (by omega)]
/-! dicts of pairs -/
def putsKV {κ : Type} [DecidableEq κ] (kvs : List (κ × D)) : List (κ × D) := kvs.foldl (fun acc kv => putKD acc kv.1 kv.2) []
theorem putKD_new {κ : Type} [DecidableEq κ] {kvs : List (κ × D)} {k : κ} {v : D} (h : k ∉ kvs.map (·.1)) : putKD kvs k v = kvs ++ [(k, v)] := by
  unfold putKD
  rw [if_neg]
  intro z
  apply h
  simp only [List.any_eq_true, decide_eq_true_eq] at z
  obtain ⟨p, hp, e⟩ := z
  exact List.mem_map.mpr ⟨p, hp, e⟩
theorem putsKV_nodup {κ : Type} [DecidableEq κ] {kvs : List (κ × D)} (h : (kvs.map (·.1)).Nodup) : putsKV kvs = kvs := by
  have go : ∀ (more acc : List (κ × D)), ((acc ++ more).map (·.1)).Nodup → more.foldl (fun acc kv => putKD acc kv.1 kv.2) acc = acc ++ more := by
    intro more
    induction more with
    | nil => intro acc _; simp
    | cons p more ih =>
      intro acc hn
      rw [List.foldl_cons]
      have hp : p.1 ∉ acc.map (·.1) := fun z => by
        rw [List.map_append, List.nodup_append] at hn
        exact hn.2.2 p.1 z p.1 (by simp) rfl
      rw [putKD_new hp, ih (acc ++ [p]) (by simpa using hn)]
      simp
  simpa [putsKV] using go kvs [] (by simpa using h)
theorem dc_kv {src : Src} (items : List D) (kf : D → Key) (kd vd : D → D) {g : Tg} {ek ev : Env → M D} {r : Env} {S0 : Sto} (hn : ∀ l i, nextD src i (S0 ++ l) = some items[i]?) (hk : ∀ d ∈ items, keyOf (kd d) = some (kf d)) (hnd : (items.map kf).Nodup)
    (h : ∀ d ∈ items, ∀ l, ∃ r', g d r (S0 ++ l) = .ok r' (S0 ++ l) ∧ ek r' (S0 ++ l) = .ok (kd d) (S0 ++ l) ∧ ev r' (S0 ++ l) = .ok (vd d) (S0 ++ l)) (hz : items.length ≤ sizeLine) :
    dcGo src g tT ek ev S0.length r items.length 0 (S0 ++ [.dct []]) = .ok (.loc S0.length) (S0 ++ [.dct (items.map fun d => (kf d, vd d))]) := by
  have go : ∀ (k i : Nat), i + k = items.length → dcGo src g tT ek ev S0.length r k i (S0 ++ [.dct ((items.take i).map fun d => (kf d, vd d))]) = .ok (.loc S0.length) (S0 ++ [.dct (items.map fun d => (kf d, vd d))]) := by
    intro k
    induction k with
    | zero =>
      intro i hi
      have e0 : items[i]? = none := List.getElem?_eq_none_iff.mpr (by omega)
      unfold dcGo
      rw [hn, e0, List.take_of_length_le (by omega)]
    | succ k ih =>
      intro i hi
      have hlt : i < items.length := by omega
      have e0 : items[i]? = some items[i] := List.getElem?_eq_getElem hlt
      obtain ⟨r', h1, h2, h3⟩ := h items[i] (List.getElem_mem hlt) [.dct ((items.take i).map fun d => (kf d, vd d))]
      have et : items.take (i + 1) = items.take i ++ [items[i]] := by
        rw [List.take_add_one, e0]
        rfl
      unfold dcGo
      rw [hn, e0]
      simp only [h1, show tT r' (S0 ++ [.dct ((items.take i).map fun d => (kf d, vd d))]) = .ok true (S0 ++ [.dct ((items.take i).map fun d => (kf d, vd d))]) from rfl, h2, h3]
      have hq : (S0 ++ [.dct ((items.take i).map fun d => (kf d, vd d))])[S0.length]? = some (.dct ((items.take i).map fun d => (kf d, vd d))) := at_end _ _
      have hnew : kf items[i] ∉ ((items.take i).map fun d => (kf d, vd d)).map (·.1) := by
        have hs : (items.take (i + 1)).map kf <+: items.map kf := (List.take_prefix _ _).map kf
        have hn2 : ((items.take (i + 1)).map kf).Nodup := hnd.sublist hs.sublist
        rw [et, List.map_append, List.nodup_append] at hn2
        rw [List.map_map]
        intro z
        exact hn2.2.2 _ z _ (by simp) rfl
      have hp : putD S0.length (kd items[i]) (vd items[i]) (S0 ++ [.dct ((items.take i).map fun d => (kf d, vd d))]) = some (S0 ++ [.dct ((items.take (i + 1)).map fun d => (kf d, vd d))]) := by
        unfold putD
        simp only [hq, hk _ (List.getElem_mem hlt), show ((items.take i).map fun d => (kf d, vd d)).length < sizeLine by rw [List.length_map, List.length_take]; omega, if_true, set_end]
        rw [putKD_new hnew, et, List.map_append]
        rfl
      simp only [hp]
      exact ih (i + 1) (by omega)
  simpa using go items.length 0 (by omega)
theorem mDc_kv {m : Env → M Src} {src : Src} (items : List D) (kf : D → Key) (kd vd : D → D) {g : Tg} {ek ev : Env → M D} {vs : List Nat} {r : Env} {S S0 : Sto} (hm : m r S = .ok src S0) (ht : turns src S0 = items.length) (hn : ∀ l i, nextD src i (S0 ++ l) = some items[i]?) (hk : ∀ d ∈ items, keyOf (kd d) = some (kf d)) (hnd : (items.map kf).Nodup)
    (h : ∀ d ∈ items, ∀ l, ∃ r', g d (wipeE r vs) (S0 ++ l) = .ok r' (S0 ++ l) ∧ ek r' (S0 ++ l) = .ok (kd d) (S0 ++ l) ∧ ev r' (S0 ++ l) = .ok (vd d) (S0 ++ l)) (hz : items.length ≤ sizeLine) :
    mDc false m g tT ek ev vs r S = .ok (.loc S0.length) (S0 ++ [.dct (items.map fun d => (kf d, vd d))]) := by
  unfold mDc
  rw [bnd_ap, hm, bK_ok, ht]
  exact dc_kv items kf kd vd hn hk hnd h hz
end Fa
namespace Fa
open PySem PySem.Spec PyProof.Rows L2
/-! ### repr of plain data -/
mutual
def pyD : D → PyData
  | .bl b => .bool b
  | .int i => .int i
  | .str x => .str x
  | .tup ds => .tuple (pyDs ds)
  | .non => .none
  | .ktp _ | .ttp _ | .rls _ | .loc _ | .adr _ | .ty _ | .exn _ _ _ => .none
def pyDs : List D → List PyData
  | [] => []
  | d :: ds => pyD d :: pyDs ds
end
def strG (x : Str) : Bool := x.cps.toList.all fun c => decide (c < 16 ^ 8)
mutual
/-- plain data, so deep at most -/
def rG : Nat → D → Bool
  | _, .non => true
  | _, .bl _ => true
  | _, .int i => decide (0 ≤ i) && decide (i < 10 ^ 10)
  | _, .str x => strG x
  | 0, .tup _ => false
  | n + 1, .tup ds => rGs n ds
  | _, .ktp _ | _, .ttp _ | _, .rls _ | _, .loc _ | _, .adr _ | _, .ty _ | _, .exn _ _ _ => false
def rGs : Nat → List D → Bool
  | _, [] => true
  | n, d :: ds => rG n d && rGs n ds
end
mutual
/-- no more signs than so many -/
def rWd : D → Nat
  | .bl _ => 5
  | .int _ => 11
  | .str x => 10 * x.length + 2
  | .tup ds => rWs ds + 3
  | .non => 4
  | .ktp _ | .ttp _ | .rls _ | .loc _ | .adr _ | .ty _ | .exn _ _ _ => 0
def rWs : List D → Nat
  | [] => 0
  | d :: ds => rWd d + 2 + rWs ds
end
mutual
theorem snap_rG (S : Sto) : ∀ {n : Nat} {d : D} (k : Nat), rG n d = true → n < k → snap S k d = some (pyD d)
  | _, .non, k + 1, _, _ => rfl
  | _, .bl _, k + 1, _, _ => rfl
  | _, .int _, k + 1, _, _ => rfl
  | _, .str _, k + 1, _, _ => rfl
  | n + 1, .tup ds, k + 1, h, hk => by
    have h' : rGs n ds = true := by simpa [rG] using h
    show (snapL (snap S k) ds).map PyData.tuple = some (.tuple (pyDs ds))
    rw [snapL_rG S k h' (by omega)]
    rfl
  | 0, .tup ds, k + 1, h, _ => by simp [rG] at h
  | _, .ktp _, _, h, _ => by simp [rG] at h
  | _, .ttp _, _, h, _ => by simp [rG] at h
  | _, .rls _, _, h, _ => by simp [rG] at h
  | _, .loc _, _, h, _ => by simp [rG] at h
  | _, .adr _, _, h, _ => by simp [rG] at h
  | _, .ty _, _, h, _ => by simp [rG] at h
  | _, .exn _ _ _, _, h, _ => by simp [rG] at h
  | n, .non, 0, _, hk => absurd hk (by omega)
  | n, .bl _, 0, _, hk => absurd hk (by omega)
  | n, .int _, 0, _, hk => absurd hk (by omega)
  | n, .str _, 0, _, hk => absurd hk (by omega)
  | n, .tup _, 0, _, hk => absurd hk (by omega)
theorem snapL_rG (S : Sto) : ∀ {n : Nat} {ds : List D} (k : Nat), rGs n ds = true → n < k → snapL (snap S k) ds = some (pyDs ds)
  | _, [], _, _, _ => rfl
  | n, d :: ds, k, h, hk => by
    have h' : rG n d = true ∧ rGs n ds = true := by simpa [rGs] using h
    show (match snap S k d, snapL (snap S k) ds with
      | some a, some as => some (a :: as)
      | _, _ => none) = _
    rw [snap_rG S k h'.1 hk, snapL_rG S k h'.2 hk]
    rfl
end
theorem log_10 {a : Int} (h0 : 0 ≤ a) (h1 : a < 10 ^ 10) : a.natAbs.log2 < 1920 := by
  have h : a.natAbs < 2 ^ 1920 := Nat.lt_of_lt_of_le (show a.natAbs < 2 ^ 34 by omega) (Nat.pow_le_pow_right (by decide) (by decide))
  by_cases hz : a.natAbs = 0
  · rw [hz]; decide
  · exact (Nat.log2_lt hz).mpr h
theorem tup_len (ts : List Str) : (tupleText ts).length ≤ piled ts + 3 := by
  unfold tupleText
  rw [strLen_append, strLen_append]
  have k1 : (Str.ofString "(").length = 1 := rfl
  have k2 : (Str.ofString (if (ts.length == 1) = true then ",)" else ")")).length ≤ 2 := by
    split
    · exact Nat.le_refl 2
    · exact Nat.le_succ 1
  by_cases h : ts = []
  · subst h
    have k3 : (Str.join ", " []).length = 0 := rfl
    rw [k3]
    omega
  · have := join_length_add ts h
    omega
mutual
theorem shown_rG : ∀ {n : Nat} {d : D}, rG n d = true → (pyD d).shown.length ≤ rWd d ∧ (pyD d).showable = true ∧ (pyD d).hasDict = false ∧ (pyD d).depth ≤ n
  | _, .non, _ => ⟨Nat.le_refl 4, rfl, rfl, Nat.zero_le _⟩
  | _, .bl true, _ => ⟨Nat.le_succ 4, rfl, rfl, Nat.zero_le _⟩
  | _, .bl false, _ => ⟨Nat.le_refl 5, rfl, rfl, Nat.zero_le _⟩
  | _, .int i, h => by
    have h' : 0 ≤ i ∧ i < 10 ^ 10 := by simpa [rG] using h
    refine ⟨?_, ?_, rfl, Nat.zero_le _⟩
    · have := toString_length_le h'.1 (k := 10) (by decide) h'.2
      show (Str.ofString (toString i)).length ≤ 11
      omega
    · show decide (i.natAbs.log2 < 1920) = true
      exact decide_eq_true (log_10 h'.1 h'.2)
  | _, .str x, h => by
    have h' : strG x = true := by simpa [rG] using h
    refine ⟨?_, rfl, rfl, Nat.zero_le _⟩
    show (reprText x).length ≤ 10 * x.length + 2
    exact StrLaws.reprText_len x fun c hc => of_decide_eq_true (List.all_eq_true.mp h' c hc)
  | n + 1, .tup ds, h => by
    have h' : rGs n ds = true := by simpa [rG] using h
    obtain ⟨h1, h2, h3, h4⟩ := shownAll_rG h'
    refine ⟨?_, h2, h3, Nat.succ_le_succ h4⟩
    show (tupleText (PyData.shownAll (pyDs ds))).length ≤ rWs ds + 3
    have := tup_len (PyData.shownAll (pyDs ds))
    omega
  | 0, .tup ds, h => by simp [rG] at h
  | _, .ktp _, h => by simp [rG] at h
  | _, .ttp _, h => by simp [rG] at h
  | _, .rls _, h => by simp [rG] at h
  | _, .loc _, h => by simp [rG] at h
  | _, .adr _, h => by simp [rG] at h
  | _, .ty _, h => by simp [rG] at h
  | _, .exn _ _ _, h => by simp [rG] at h
theorem shownAll_rG : ∀ {n : Nat} {ds : List D}, rGs n ds = true → piled (PyData.shownAll (pyDs ds)) ≤ rWs ds ∧ PyData.showableAll (pyDs ds) = true ∧ PyData.hasDictAll (pyDs ds) = false ∧ PyData.depthAll (pyDs ds) ≤ n
  | _, [], _ => ⟨Nat.le_refl 0, rfl, rfl, Nat.zero_le _⟩
  | n, d :: ds, h => by
    have h' : rG n d = true ∧ rGs n ds = true := by simpa [rGs] using h
    obtain ⟨a1, a2, a3, a4⟩ := shown_rG h'.1
    obtain ⟨b1, b2, b3, b4⟩ := shownAll_rG h'.2
    refine ⟨?_, ?_, ?_, ?_⟩
    · have : piled (PyData.shownAll (pyDs (d :: ds))) = (pyD d).shown.length + 2 + piled (PyData.shownAll (pyDs ds)) := by
        simp only [pyDs, PyData.shownAll, piled, List.map_cons, List.sum_cons]
      rw [this]
      show _ ≤ rWd d + 2 + rWs ds
      omega
    · show (PyData.showable (pyD d) && PyData.showableAll (pyDs ds)) = true
      rw [a2, b2]
      rfl
    · show (PyData.hasDict (pyD d) || PyData.hasDictAll (pyDs ds)) = false
      rw [a3, b3]
      rfl
    · show max (PyData.depth (pyD d)) (PyData.depthAll (pyDs ds)) ≤ n
      exact Nat.max_le.mpr ⟨a4, b4⟩
end
theorem repr_ok {d : D} (h : rG 30 d = true) (hw : rWd d ≤ 16000000) (S : Sto) : reprD [d] S = .ok (.str (pyD d).shown) S := by
  unfold reprD
  obtain ⟨h1, h2, h3, h4⟩ := shown_rG h
  have s2 : shows (pyD d) = true := by
    unfold shows
    rw [h2, h3, decide_eq_true (show (pyD d).depth ≤ 60 by omega), decide_eq_true (show (pyD d).shown.length ≤ sizeLine by rw [sizeLine_eq]; omega)]
    rfl
  simp only [snap_rG S 40 h (by decide), s2, if_true]
theorem rGs_iff {n : Nat} : ∀ {ds : List D}, rGs n ds = true ↔ ∀ d ∈ ds, rG n d = true
  | [] => by simp [rGs]
  | d :: ds => by simp only [rGs, Bool.and_eq_true, rGs_iff (ds := ds), List.mem_cons, forall_eq_or_imp]
theorem rWs_le {B : Nat} : ∀ {ds : List D}, (∀ d ∈ ds, rWd d ≤ B) → rWs ds ≤ (B + 2) * ds.length
  | [], _ => Nat.zero_le _
  | d :: ds, h => by
    have h1 := h d (by simp)
    have h2 := rWs_le (B := B) (ds := ds) fun e he => h e (List.mem_cons_of_mem _ he)
    show rWd d + 2 + rWs ds ≤ (B + 2) * (ds.length + 1)
    rw [Nat.mul_add]
    omega
theorem ne_self (x : Str) (S : Sto) : eqB true (.str x) (.str x) S = .ok (.bl false) S := by
  rw [eq_ss]
  simp
theorem eq_self_s (x : Str) (S : Sto) : eqB false (.str x) (.str x) S = .ok (.bl true) S := by
  rw [eq_ss]
  simp
end Fa
namespace Lw
open PySem PySem.Spec PyProof.Rows L2 Fa
noncomputable section
/-! FSPLIT -/
def kd_PARTS : List (Str × D) := [((PySem.Str.ofString "set"), .int 3), ((PySem.Str.ofString "send"), .int 3), ((PySem.Str.ofString "wait"), .int 3), ((PySem.Str.ofString "drop"), .int 2), ((PySem.Str.ofString "say"), .int 2), ((PySem.Str.ofString "if"), .int 4), ((PySem.Str.ofString "repeat"), .int 3)]
def F_Run___init__ : List D → M D := fnM 4 4
    (sSeq (sAs (mVar 1) (gFld ["Run"] "run_size" (mVar 0)))
    (sSeq (sAs (mA tupD (mCons (mVar 2) (mCons (mVar 3) mNil))) (gT (gTc (gFld ["Run"] "cell_book" (mVar 0)) (gTc (gFld ["Run"] "letter_worth" (mVar 0)) gT0))))
    (sAs (mA tupD (mCons (mA lstD mNil) (mCons dct0D (mCons (mA lstD mNil) mNil)))) (gT (gTc (gFld ["Run"] "sent_list" (mVar 0)) (gTc (gFld ["Run"] "alarm_book" (mVar 0)) (gTc (gFld ["Run"] "said_list" (mVar 0)) gT0)))))))
def F_l_pot : List D → M D := fnM 4 2
    (sSeq (sAs (mIf (tOf (m2 ltD (mVar 1) (mA lenD (mCons (mVar 0) mNil)))) (m2 ixD (mVar 0) (mVar 1)) (m2 addD (m2 mulB (mC (.int 43)) (mVar 1)) (mC (.int 19)))) (gN 2))
    (sSeq (sAs (m2 mulB (m2 modD (mA intD (mCons (mA absD (mCons (mVar 2) mNil)) mNil)) (m2 powD (m2 powD (mC (.int 10)) (mC (.int 60))) (mC (.int 5)))) (mA intD (mCons (m2 geD (mA absD (mCons (mVar 2) mNil)) (m2 powD (mC (.int 10)) (mC (.int 18)))) mNil))) (gN 3))
    (sRet (mA lstD (mCons (mVar 3) (mCons (m2 modD (mA intD (mCons (m2 addD (m2 addD (m2 mulB (m2 modD (mA intD (mCons (mVar 2) mNil)) (mC (.int 2305843009213693951))) (mC (.int 70663))) (m2 mulB (m2 mulB (mC (.int 6421)) (mVar 1)) (mVar 1))) (mC (.int 83))) mNil)) (mC (.int 2305843009213693921))) (mCons (mC (.int 0)) mNil)))))))
def F_l_take : List D → M D := fnM 5 2
    (sSeq (sIf (tOf (m2 gtD (m2 ixD (mVar 0) (mC (.int 0))) (mC (.int 0)))) (sSeq (sAs (m2 modD (mA intD (mCons (m2 ixD (mVar 0) (mC (.int 0))) mNil)) (mVar 1)) (gN 2))
    (sSeq (sAs (m2 fdivD (m2 ixD (mVar 0) (mC (.int 0))) (mVar 1)) (gSubD (mVar 0) (mC (.int 0))))
    (sRet (mVar 2)))) sNx)
    (sSeq (sAs (m2 addD (m2 ixD (mVar 0) (mC (.int 2))) (mC (.int 1))) (gSubD (mVar 0) (mC (.int 2))))
    (sSeq (sAs (m2 ixD (mA lstD (mCons (mC (.int 2147483647)) (mCons (mC (.int 2147483629)) (mCons (mC (.int 2147483587)) (mCons (mC (.int 2147483579)) (mCons (mC (.int 2147483563)) mNil)))))) (m2 modD (mA intD (mCons (m2 ixD (mVar 0) (mC (.int 2))) mNil)) (mC (.int 5)))) (gN 3))
    (sSeq (sAs (m2 modD (mA intD (mCons (m2 powD (mA intD (mCons (m2 addD (m2 addD (m2 ixD (mVar 0) (mC (.int 1))) (m2 mulB (m2 mulB (mC (.int 99989)) (m2 ixD (mVar 0) (mC (.int 2)))) (m2 ixD (mVar 0) (mC (.int 2))))) (mC (.int 61))) mNil)) (mC (.int 3))) mNil)) (mVar 3)) (gN 4))
    (sSeq (sAs (m2 modD (mA intD (mCons (m2 mulB (mVar 4) (m2 addD (m2 modD (mA intD (mCons (mVar 4) mNil)) (mC (.int 10009))) (m2 mulB (mC (.int 91)) (m2 ixD (mVar 0) (mC (.int 2)))))) mNil)) (mC (.int 2305843009213693907))) (gN 4))
    (sRet (m2 modD (mA intD (mCons (m2 fdivD (mVar 4) (mC (.int 107))) mNil)) (mVar 1))))))))
def F_is_name : List D → M D := fnM 2 1
    (sSeq (sIf (Fa.tOr (tNt (tOf (mA isiD (mCons (mVar 0) (mCons (mC (.ty "str")) mNil))))) (tNt (tOf (mChain leD leD (mC (.int 1)) (mA lenD (mCons (mVar 0) mNil)) (mC (.int 8)))))) (sRet (mC (.bl false))) sNx)
    (sRet (mA allD (mCons (mLc (mSrc (mVar 0)) (gN 1) tT (m2 (inD false) (mVar 1) (mC (.str (PySem.Str.ofString "abcdefghijklmnopqrstuvwxyz")))) [1]) mNil))))
def F_is_named : List D → M D := fnM 2 2
    (sRet (mAnd (mA isiD (mCons (mVar 0) (mCons (mC (.ty "str")) mNil))) (m2 (inD false) (mVar 0) (mVar 1))))
def F_is_number : List D → M D := fnM 3 3
    (sSeq (sIf (Fa.tOr (tNt (tOf (mA isiD (mCons (mVar 0) (mCons (mC (.ty "int")) mNil))))) (tOf (mA isiD (mCons (mVar 0) (mCons (mC (.ty "bool")) mNil))))) (sRet (mC (.bl false))) sNx)
    (sRet (mAnd (m2 geD (mVar 0) (mVar 1)) (mOr (m2 (isN false) (mVar 2) (mC .non)) (m2 leD (mVar 0) (mVar 2))))))
def F_station_named : List D → M D := fnM 4 2
    (sSeq (sAs (mLc (mSrc (mVar 0)) (gN 3) (tAn (tOf (mA isiD (mCons (mVar 1) (mCons (mC (.ty "str")) mNil)))) (tOf (m2 (eqB false) (m2 ixD (mVar 3) (mC (.int 0))) (mVar 1)))) (mVar 3) [3]) (gN 2))
    (sRet (mIf (tOf (m2 (eq0 true) (mVar 2) (mA lstD mNil))) (m2 ixD (mVar 2) (mC (.int 0))) (mC .non))))
def F_l_of : List D → M D := fnM 2 2
    (sRet (m2 ixD (mVar 1) (mA (gq F_l_take) (mCons (mVar 0) (mCons (mA lenD (mCons (mVar 1) mNil)) mNil)))))
def F_are_cells : List D → M D := fnM 5 2
    (sSeq (sIf (Fa.tOr (tNt (tOf (mA isiD (mCons (mVar 0) (mCons (mC (.ty "tuple")) mNil))))) (tOf (m2 gtD (mA lenD (mCons (mVar 0) mNil)) (mC (.int 3))))) (sRet (mC (.bl false))) sNx)
    (sSeq (sIf (tNt (tOf (mA allD (mCons (mLc (mSrc (mVar 0)) (gN 4) tT (mAnd (mA isiD (mCons (mVar 4) (mCons (mC (.ty "tuple")) mNil))) (mAnd (m2 (eqB false) (mA lenD (mCons (mVar 4) mNil)) (mC (.int 2))) (mA (gq F_is_name) (mCons (m2 ixD (mVar 4) (mC (.int 0))) mNil)))) [4]) mNil)))) (sRet (mC (.bl false))) sNx)
    (sRet (mA allD (mCons (mLc (mSrc (mVar 0)) (gT (gTc (gN 2) (gTc (gN 3) gT0))) tT (mA (dfl (gq F_is_number) []) (mCons (mVar 3) (mCons (mC (.int 0)) (mCons (m2 subD (mVar 1) (mC (.int 1))) mNil)))) [2, 3]) mNil)))))
def F_are_names : List D → M D := fnM 3 2
    (sRet (mAnd (mA isiD (mCons (mVar 0) (mCons (mC (.ty "tuple")) mNil))) (mAnd (m2 leD (mA lenD (mCons (mVar 0) mNil)) (mVar 1)) (mA allD (mCons (mLc (mSrc (mVar 0)) (gN 2) tT (mA (gq F_is_name) (mCons (mVar 2) mNil)) [2]) mNil)))))
def F_are_worths : List D → M D := fnM 4 3
    (sRet (mAnd (mA isiD (mCons (mVar 0) (mCons (mC (.ty "tuple")) mNil))) (mAnd (m2 (eqB false) (mA lenD (mCons (mVar 0) mNil)) (mVar 1)) (mA allD (mCons (mLc (mSrc (mVar 0)) (gN 3) tT (mA (dfl (gq F_is_number) []) (mCons (mVar 3) (mCons (mC (.int 0)) (mCons (m2 subD (mVar 2) (mC (.int 1))) mNil)))) [3]) mNil)))))
def F_is_first : List D → M D := fnM 9 4
    (sSeq (sIf (Fa.tOr (tNt (tOf (mA isiD (mCons (mVar 0) (mCons (mC (.ty "tuple")) mNil))))) (Fa.tOr (tOf (m2 (eqB true) (mA lenD (mCons (mVar 0) mNil)) (mC (.int 4)))) (tNt (tOf (mA (dfl (gq F_is_number) [.non]) (mCons (m2 ixD (mVar 0) (mC (.int 0))) (mCons (mC (.int 0)) mNil))))))) (sRet (mC (.bl false))) sNx)
    (sSeq (sAs (mVar 0) (gT (gTc (gN 4) (gTc (gN 5) (gTc (gN 6) (gTc (gN 7) gT0))))))
    (sSeq (sAs (mA (gq F_station_named) (mCons (mVar 2) (mCons (mVar 5) mNil))) (gN 8))
    (sSeq (sIf (Fa.tOr (tOf (m2 (isN false) (mVar 8) (mC .non))) (tNt (tOf (mA isiD (mCons (mVar 6) (mCons (mC (.ty "str")) mNil)))))) (sRet (mC (.bl false))) sNx)
    (sSeq (sIf (tOf (m2 (inD false) (mVar 6) (m2 ixD (mVar 8) (mC (.int 4))))) (sRet (mA (dfl (gq F_is_number) []) (mCons (mVar 7) (mCons (mC (.int 0)) (mCons (mC (.int 0)) mNil))))) sNx)
    (sRet (mAnd (m2 (inD false) (mVar 6) (m2 ixD (mVar 8) (mC (.int 2)))) (mAnd (m2 (inD true) (mA tupD (mCons (mVar 5) (mCons (mVar 6) mNil))) (mVar 3)) (mA (dfl (gq F_is_number) []) (mCons (mVar 7) (mCons (mC (.int 0)) (mCons (m2 subD (mVar 1) (mC (.int 1))) mNil))))))))))))
def F_is_line : List D → M D := fnM 4 2
    (sSeq (sIf (Fa.tOr (tNt (tOf (mA isiD (mCons (mVar 0) (mCons (mC (.ty "tuple")) mNil))))) (Fa.tOr (tOf (m2 (eqB true) (mA lenD (mCons (mVar 0) mNil)) (mC (.int 5)))) (tNt (tOf (mA (dfl (gq F_is_number) []) (mCons (m2 ixD (mVar 0) (mC (.int 4))) (mCons (mC (.int 0)) (mCons (mC (.int 20)) mNil)))))))) (sRet (mC (.bl false))) sNx)
    (sSeq (sPar 2 3 (mCons (mA (gq F_station_named) (mCons (mVar 1) (mCons (m2 ixD (mVar 0) (mC (.int 0))) mNil))) (mCons (mA (gq F_station_named) (mCons (mVar 1) (mCons (m2 ixD (mVar 0) (mC (.int 2))) mNil))) mNil)))
    (sSeq (sIf (Fa.tOr (tOf (m2 (isN false) (mVar 2) (mC .non))) (Fa.tOr (tOf (m2 (isN false) (mVar 3) (mC .non))) (Fa.tOr (tNt (tOf (mA isiD (mCons (m2 ixD (mVar 0) (mC (.int 1))) (mCons (mC (.ty "str")) mNil))))) (tNt (tOf (mA isiD (mCons (m2 ixD (mVar 0) (mC (.int 3))) (mCons (mC (.ty "str")) mNil)))))))) (sRet (mC (.bl false))) sNx)
    (sRet (mAnd (m2 (inD false) (m2 ixD (mVar 0) (mC (.int 1))) (m2 ixD (mVar 2) (mC (.int 3)))) (m2 (inD false) (m2 ixD (mVar 0) (mC (.int 3))) (m2 ixD (mVar 3) (mC (.int 2)))))))))
def F_are_firsts : List D → M D := fnM 13 4
    (sSeq (sAs (mLc (mSrc (mVar 3)) (gN 6) tT (mSl (mVar 6) (mP (mC (.int 2))) (mP (mC (.int 4)))) [6]) (gN 4))
    (sSeq (sIf (Fa.tOr (tNt (tOf (mA isiD (mCons (mVar 0) (mCons (mC (.ty "tuple")) mNil))))) (tNt (tOf (mA allD (mCons (mLc (mSrc (mVar 0)) (gN 12) tT (mA (gq F_is_first) (mCons (mVar 12) (mCons (mVar 1) (mCons (mVar 2) (mCons (mVar 4) mNil))))) [12]) mNil))))) (sRet (mC (.bl false))) sNx)
    (sSeq (sAs (mLc (mSrc (mVar 0)) (gT (gTc (gN 7) (gTc (gN 8) (gTc (gN 9) (gTc (gN 10) gT0))))) (tOf (m2 (inD false) (mVar 9) (m2 ixD (mA (gq F_station_named) (mCons (mVar 2) (mCons (mVar 8) mNil))) (mC (.int 4))))) (mA tupT (mCons (mVar 8) (mCons (mVar 9) mNil))) [7, 8, 9, 10]) (gN 5))
    (sRet (m2 (eqB false) (mA lenD (mCons (mDc true (mSrc (mVar 5)) (gN 11) tT (mVar 11) (mC (.bl true)) [11]) mNil)) (mA lenD (mCons (mVar 5) mNil)))))))
def F_are_lines_of : List D → M D := fnM 5 2
    (sSeq (sIf (Fa.tOr (tNt (tOf (mA isiD (mCons (mVar 0) (mCons (mC (.ty "tuple")) mNil))))) (tNt (tOf (mA allD (mCons (mLc (mSrc (mVar 0)) (gN 4) tT (mA (gq F_is_line) (mCons (mVar 4) (mCons (mVar 1) mNil))) [4]) mNil))))) (sRet (mC (.bl false))) sNx)
    (sSeq (sPar 2 3 (mCons (mDc true (mSrc (mVar 0)) (gN 4) tT (mSlT (mVar 4) mP0 (mP (mC (.int 2)))) (mC (.bl true)) [4]) (mCons (mDc true (mSrc (mVar 0)) (gN 4) tT (mSlT (mVar 4) (mP (mC (.int 2))) (mP (mC (.int 4)))) (mC (.bl true)) [4]) mNil)))
    (sRet (mAnd (m2 (eqB false) (mA lenD (mCons (mVar 2) mNil)) (mA lenD (mCons (mVar 0) mNil))) (m2 (eqB false) (mA lenD (mCons (mVar 3) mNil)) (mA lenD (mCons (mVar 0) mNil)))))))
mutual
def F_Run_reckoned : Nat → List D → M D
  | 0 => noF
  | n + 1 => fnM 6 2
    (sSeq (sIf (tOf (mA isiD (mCons (mVar 1) (mCons (mC (.ty "int")) mNil)))) (sRet (mVar 1)) sNx)
    (sSeq (sIf (tOf (mA isiD (mCons (mVar 1) (mCons (mC (.ty "str")) mNil)))) (sRet (mIf (tOf (m2 (eqB false) (mVar 1) (mC (.str (PySem.Str.ofString "it"))))) (m1 (fldD ["Run"] "letter_worth") (mVar 0)) (m2 ixA (m1 (fldD ["Run"] "cell_book") (mVar 0)) (mVar 1)))) sNx)
    (sSeq (sPar3 2 3 4 (mCons (m2 ixD (mVar 1) (mC (.int 0))) (mCons (mMeth "Run" "reckoned" (gq (F_Run_reckoned n)) (mVar 0) (mCons (m2 ixD (mVar 1) (mC (.int 1))) mNil)) (mCons (mMeth "Run" "reckoned" (gq (F_Run_reckoned n)) (mVar 0) (mCons (m2 ixD (mVar 1) (mC (.int 2))) mNil)) mNil))))
    (sSeq (sAs (mIf (tOf (m2 (eqB false) (mVar 2) (mC (.str (PySem.Str.ofString "+"))))) (m2 addD (mVar 3) (mVar 4)) (mIf (tOf (m2 (eqB false) (mVar 2) (mC (.str (PySem.Str.ofString "-"))))) (m2 subD (mVar 3) (mVar 4)) (m2 mulB (mVar 3) (mVar 4)))) (gN 5))
    (sRet (m2 modD (mVar 5) (m1 (fldD ["Run"] "run_size") (mVar 0))))))))
end
theorem A_Run_reckoned : ∀ n, arity 2 (F_Run_reckoned n)
  | 0 => by rw [F_Run_reckoned]; exact noF_arity
  | n + 1 => by rw [F_Run_reckoned]; exact fnM_arity
mutual
def F_l_plain : Nat → List D → M D
  | 0 => noF
  | n + 1 => fnM 4 2
    (sSeq (sIf (tOf (mA isiD (mCons (mVar 0) (mCons (mC (.ty "tuple")) mNil)))) (sSeq (sPar 2 3 (mCons (mA (gq (F_l_plain n)) (mCons (m2 ixD (mVar 0) (mC (.int 1))) (mCons (mVar 1) mNil))) (mCons (mA (gq (F_l_plain n)) (mCons (m2 ixD (mVar 0) (mC (.int 2))) (mCons (mVar 1) mNil))) mNil)))
    (sRet (m2 ixA (mDisp (((mC (.str (PySem.Str.ofString "+"))), (m2 addD (mVar 2) (mVar 3))) :: ((mC (.str (PySem.Str.ofString "-"))), (m2 subD (mVar 2) (mVar 3))) :: ((mC (.str (PySem.Str.ofString "*"))), (m2 mulB (mVar 2) (mVar 3))) :: [])) (m2 ixD (mVar 0) (mC (.int 0)))))) sNx)
    (sRet (mIf (tOf (mA isiD (mCons (mVar 0) (mCons (mC (.ty "str")) mNil)))) (m2 ixA (mVar 1) (mVar 0)) (mVar 0))))
end
theorem A_l_plain : ∀ n, arity 2 (F_l_plain n)
  | 0 => by rw [F_l_plain]; exact noF_arity
  | n + 1 => by rw [F_l_plain]; exact fnM_arity
def F_Run_is_so : List D → M D := fnM 7 2
    (sSeq (sAs (mVar 1) (gT (gTc (gN 2) (gTc (gN 3) (gTc (gN 4) gT0)))))
    (sSeq (sPar 5 6 (mCons (mMeth "Run" "reckoned" (gq (F_Run_reckoned 12)) (mVar 0) (mCons (mVar 3) mNil)) (mCons (mMeth "Run" "reckoned" (gq (F_Run_reckoned 12)) (mVar 0) (mCons (mVar 4) mNil)) mNil)))
    (sRet (mIf (tOf (m2 (eqB false) (mVar 2) (mC (.str (PySem.Str.ofString "="))))) (m2 (eqB false) (mVar 5) (mVar 6)) (m2 ltD (mVar 5) (mVar 6))))))
mutual
def F_is_expression : Nat → List D → M D
  | 0 => noF
  | n + 1 => fnM 5 4
    (sSeq (sIf (tOf (mA isiD (mCons (mVar 0) (mCons (mC (.ty "str")) mNil)))) (sRet (mOr (m2 (eqB false) (mVar 0) (mC (.str (PySem.Str.ofString "it")))) (m2 (inD false) (mVar 0) (mVar 1)))) sNx)
    (sSeq (sIf (tNt (tOf (mA isiD (mCons (mVar 0) (mCons (mC (.ty "tuple")) mNil))))) (sRet (mA (dfl (gq F_is_number) []) (mCons (mVar 0) (mCons (mC (.int 0)) (mCons (m2 subD (mVar 2) (mC (.int 1))) mNil))))) sNx)
    (sSeq (sIf (Fa.tOr (tOf (m2 (eqB false) (mVar 3) (mC (.int 0)))) (Fa.tOr (tOf (m2 (eqB true) (mA lenD (mCons (mVar 0) mNil)) (mC (.int 3)))) (Fa.tOr (tNt (tOf (mA isiD (mCons (m2 ixD (mVar 0) (mC (.int 0))) (mCons (mC (.ty "str")) mNil))))) (tOf (m2 (inD true) (m2 ixD (mVar 0) (mC (.int 0))) (mC (.ktp [.str (PySem.Str.ofString "+"), .str (PySem.Str.ofString "-"), .str (PySem.Str.ofString "*")]))))))) (sRet (mC (.bl false))) sNx)
    (sRet (mA allD (mCons (mLc (mSrc (mSl (mVar 0) (mP (mC (.int 1))) mP0)) (gN 4) tT (mA (dfl (gq (F_is_expression n)) []) (mCons (mVar 4) (mCons (mVar 1) (mCons (mVar 2) (mCons (m2 subD (mVar 3) (mC (.int 1))) mNil))))) [4]) mNil))))))
end
theorem A_is_expression : ∀ n, arity 4 (F_is_expression n)
  | 0 => by rw [F_is_expression]; exact noF_arity
  | n + 1 => by rw [F_is_expression]; exact fnM_arity
mutual
def F_l_sum : Nat → List D → M D
  | 0 => noF
  | n + 1 => fnM 5 4
    (sSeq (sIf (Fa.tOr (tOf (m2 (eqB false) (mVar 3) (mC (.int 0)))) (tOf (m2 (eqB false) (mA (gq F_l_take) (mCons (mVar 0) (mCons (mC (.int 4)) mNil))) (mC (.int 0))))) (sRet (mIf (tOf (m2 gtD (mA (gq F_l_take) (mCons (mVar 0) (mCons (mC (.int 3)) mNil))) (mC (.int 0)))) (mA (gq F_l_of) (mCons (mVar 0) (mCons (mVar 1) mNil))) (mA (gq F_l_take) (mCons (mVar 0) (mCons (mVar 2) mNil))))) sNx)
    (sSeq (sAs (mA (gq F_l_of) (mCons (mVar 0) (mCons (mA lstD (mCons (mC (.str (PySem.Str.ofString "+"))) (mCons (mC (.str (PySem.Str.ofString "-"))) (mCons (mC (.str (PySem.Str.ofString "*"))) mNil)))) mNil))) (gN 4))
    (sRet (mA tupD (mCons (mVar 4) (mCons (mA (gq (F_l_sum n)) (mCons (mVar 0) (mCons (mVar 1) (mCons (mVar 2) (mCons (m2 subD (mVar 3) (mC (.int 1))) mNil))))) (mCons (mA (gq (F_l_sum n)) (mCons (mVar 0) (mCons (mVar 1) (mCons (mVar 2) (mCons (m2 subD (mVar 3) (mC (.int 1))) mNil))))) mNil)))))))
end
theorem A_l_sum : ∀ n, arity 4 (F_l_sum n)
  | 0 => by rw [F_l_sum]; exact noF_arity
  | n + 1 => by rw [F_l_sum]; exact fnM_arity
def F_is_condition : List D → M D := fnM 4 3
    (sSeq (sIf (Fa.tOr (tNt (tOf (mA isiD (mCons (mVar 0) (mCons (mC (.ty "tuple")) mNil))))) (Fa.tOr (tOf (m2 (eqB true) (mA lenD (mCons (mVar 0) mNil)) (mC (.int 3)))) (tNt (tOf (mA isiD (mCons (m2 ixD (mVar 0) (mC (.int 0))) (mCons (mC (.ty "str")) mNil))))))) (sRet (mC (.bl false))) sNx)
    (sRet (mAnd (m2 (inD false) (m2 ixD (mVar 0) (mC (.int 0))) (mC (.ktp [.str (PySem.Str.ofString "="), .str (PySem.Str.ofString "<")]))) (mA allD (mCons (mLc (mSrc (mSl (mVar 0) (mP (mC (.int 1))) mP0)) (gN 3) tT (mA (dfl (gq (F_is_expression 12)) [.int 3]) (mCons (mVar 3) (mCons (mVar 1) (mCons (mVar 2) mNil)))) [3]) mNil)))))
mutual
def F_Run_do_all : Nat → List D → M D
  | 0 => noF
  | n + 1 => fnM 3 2
    (sFor (mSrc (mVar 1)) (gN 2) (sEx (mMeth "Run" "do_one" (gq (F_Run_do_one n)) (mVar 0) (mCons (mVar 2) mNil))))
def F_Run_do_one : Nat → List D → M D
  | 0 => noF
  | n + 1 => fnM 4 2
    (sSeq (sAs (m2 ixD (mVar 1) (mC (.int 0))) (gN 2))
    (sIf (tOf (m2 (eqB false) (mVar 2) (mC (.str (PySem.Str.ofString "set"))))) (sAs (mMeth "Run" "reckoned" (gq (F_Run_reckoned 12)) (mVar 0) (mCons (m2 ixD (mVar 1) (mC (.int 2))) mNil)) (gSubA (m1 (fldD ["Run"] "cell_book") (mVar 0)) (m2 ixD (mVar 1) (mC (.int 1))))) (sIf (tOf (m2 (eqB false) (mVar 2) (mC (.str (PySem.Str.ofString "send"))))) (sEx (mLM appD (m1 (fldD ["Run"] "sent_list") (mVar 0)) (mCons (mA tupD (mCons (m2 ixD (mVar 1) (mC (.int 1))) (mCons (mMeth "Run" "reckoned" (gq (F_Run_reckoned 12)) (mVar 0) (mCons (m2 ixD (mVar 1) (mC (.int 2))) mNil)) mNil))) mNil))) (sIf (tOf (m2 (inD false) (mVar 2) (mA tupD (mCons (mC (.str (PySem.Str.ofString "wait"))) (mCons (mC (.str (PySem.Str.ofString "drop"))) mNil))))) (sAs (mIf (tOf (m2 (eqB false) (mVar 2) (mC (.str (PySem.Str.ofString "wait"))))) (mMeth "Run" "reckoned" (gq (F_Run_reckoned 12)) (mVar 0) (mCons (m2 ixD (mVar 1) (mC (.int 2))) mNil)) (mC .non)) (gSubA (m1 (fldD ["Run"] "alarm_book") (mVar 0)) (m2 ixD (mVar 1) (mC (.int 1))))) (sIf (tOf (m2 (eqB false) (mVar 2) (mC (.str (PySem.Str.ofString "say"))))) (sEx (mLM appD (m1 (fldD ["Run"] "said_list") (mVar 0)) (mCons (mMeth "Run" "reckoned" (gq (F_Run_reckoned 12)) (mVar 0) (mCons (m2 ixD (mVar 1) (mC (.int 1))) mNil)) mNil))) (sIf (tOf (m2 (eqB false) (mVar 2) (mC (.str (PySem.Str.ofString "if"))))) (sEx (mMeth "Run" "do_all" (gq (F_Run_do_all n)) (mVar 0) (mCons (mIf (tOf (mMeth "Run" "is_so" (gq F_Run_is_so) (mVar 0) (mCons (m2 ixD (mVar 1) (mC (.int 1))) mNil))) (m2 ixD (mVar 1) (mC (.int 2))) (m2 ixD (mVar 1) (mC (.int 3)))) mNil))) (sFor (mRng1 (mCons (mMeth "Run" "reckoned" (gq (F_Run_reckoned 12)) (mVar 0) (mCons (m2 ixD (mVar 1) (mC (.int 1))) mNil)) mNil)) (gN 3) (sEx (mMeth "Run" "do_all" (gq (F_Run_do_all n)) (mVar 0) (mCons (m2 ixD (mVar 1) (mC (.int 2))) mNil))))))))))
end
theorem A_Run_do_all : ∀ n, arity 2 (F_Run_do_all n)
  | 0 => by rw [F_Run_do_all]; exact noF_arity
  | n + 1 => by rw [F_Run_do_all]; exact fnM_arity
theorem A_Run_do_one : ∀ n, arity 2 (F_Run_do_one n)
  | 0 => by rw [F_Run_do_one]; exact noF_arity
  | n + 1 => by rw [F_Run_do_one]; exact fnM_arity
mutual
def F_is_statement : Nat → List D → M D
  | 0 => noF
  | n + 1 => fnM 10 4
    (sSeq (sIf (Fa.tOr (tNt (tOf (mA isiD (mCons (mVar 0) (mCons (mC (.ty "tuple")) mNil))))) (Fa.tOr (tOf (m2 eqE (mVar 0) (mA tupD mNil))) (tNt (tOf (mA isiD (mCons (m2 ixD (mVar 0) (mC (.int 0))) (mCons (mC (.ty "str")) mNil))))))) (sRet (mC (.bl false))) sNx)
    (sSeq (sIf (tOf (m2 (eqB true) (mA (kget kd_PARTS) (mCons (m2 ixD (mVar 0) (mC (.int 0))) (mCons (mC (.int 0)) mNil))) (mA lenD (mCons (mVar 0) mNil)))) (sRet (mC (.bl false))) sNx)
    (sSeq (sAs (mVar 1) (gT (gTc (gN 4) (gTc (gN 5) (gTc (gN 6) gT0)))))
    (sSeq (sIf (tOf (m2 (eqB false) (m2 ixD (mVar 0) (mC (.int 0))) (mC (.str (PySem.Str.ofString "drop"))))) (sRet (mA (gq F_is_named) (mCons (m2 ixD (mVar 0) (mC (.int 1))) (mCons (mVar 6) mNil)))) sNx)
    (sSeq (sIf (tOf (m2 (eqB false) (m2 ixD (mVar 0) (mC (.int 0))) (mC (.str (PySem.Str.ofString "say"))))) (sRet (mA (dfl (gq (F_is_expression 12)) [.int 3]) (mCons (m2 ixD (mVar 0) (mC (.int 1))) (mCons (mVar 4) (mCons (mVar 2) mNil))))) sNx)
    (sSeq (sIf (tOf (m2 (inD false) (m2 ixD (mVar 0) (mC (.int 0))) (mC (.ktp [.str (PySem.Str.ofString "set"), .str (PySem.Str.ofString "send"), .str (PySem.Str.ofString "wait")])))) (sSeq (sAs (m2 ixD (mVar 1) (mTM idxA (mC (.ktp [.str (PySem.Str.ofString "set"), .str (PySem.Str.ofString "send"), .str (PySem.Str.ofString "wait")])) (mCons (m2 ixD (mVar 0) (mC (.int 0))) mNil))) (gN 7))
    (sRet (mAnd (mA (gq F_is_named) (mCons (m2 ixD (mVar 0) (mC (.int 1))) (mCons (mVar 7) mNil))) (mA (dfl (gq (F_is_expression 12)) [.int 3]) (mCons (m2 ixD (mVar 0) (mC (.int 2))) (mCons (mVar 4) (mCons (mVar 2) mNil))))))) sNx)
    (sSeq (sIf (tOf (m2 geD (mVar 3) (mC (.int 3)))) (sRet (mC (.bl false))) sNx)
    (sSeq (sIf (tOf (m2 (eqB false) (m2 ixD (mVar 0) (mC (.int 0))) (mC (.str (PySem.Str.ofString "repeat"))))) (sRet (mAnd (mA (dfl (gq (F_is_expression 12)) [.int 3]) (mCons (m2 ixD (mVar 0) (mC (.int 1))) (mCons (mVar 4) (mCons (mVar 2) mNil)))) (mA (dfl (gq (F_is_program n)) []) (mCons (m2 ixD (mVar 0) (mC (.int 2))) (mCons (mVar 1) (mCons (mVar 2) (mCons (m2 addD (mVar 3) (mC (.int 1))) mNil))))))) sNx)
    (sSeq (sAs (mA (gq F_is_condition) (mCons (m2 ixD (mVar 0) (mC (.int 1))) (mCons (mVar 4) (mCons (mVar 2) mNil)))) (gN 8))
    (sRet (mAnd (mVar 8) (mA allD (mCons (mLc (mSrc (mSl (mVar 0) (mP (mC (.int 2))) mP0)) (gN 9) tT (mA (dfl (gq (F_is_program n)) []) (mCons (mVar 9) (mCons (mVar 1) (mCons (mVar 2) (mCons (m2 addD (mVar 3) (mC (.int 1))) mNil))))) [9]) mNil)))))))))))))
def F_is_program : Nat → List D → M D
  | 0 => noF
  | n + 1 => fnM 5 4
    (sSeq (sIf (Fa.tOr (tNt (tOf (mA isiD (mCons (mVar 0) (mCons (mC (.ty "tuple")) mNil))))) (tOf (m2 gtD (mA lenD (mCons (mVar 0) mNil)) (mC (.int 6))))) (sRet (mC (.bl false))) sNx)
    (sRet (mA allD (mCons (mLc (mSrc (mVar 0)) (gN 4) tT (mA (gq (F_is_statement n)) (mCons (mVar 4) (mCons (mVar 1) (mCons (mVar 2) (mCons (mVar 3) mNil))))) [4]) mNil))))
end
theorem A_is_statement : ∀ n, arity 4 (F_is_statement n)
  | 0 => by rw [F_is_statement]; exact noF_arity
  | n + 1 => by rw [F_is_statement]; exact fnM_arity
theorem A_is_program : ∀ n, arity 4 (F_is_program n)
  | 0 => by rw [F_is_program]; exact noF_arity
  | n + 1 => by rw [F_is_program]; exact fnM_arity
def F_run_station : List D → M D := fnM 17 5
    (sSeq (sAs (mVar 1) (gT (gTc (gN 5) (gTc (gN 6) (gTc (gN 7) (gTc (gN 8) (gTc (gN 9) (gTc (gN 10) gT0))))))))
    (sSeq (sAs (mA (mkD "Run" F_Run___init__) (mCons (mVar 0) (mCons (mDc false (mZip (mCons (mVar 6) (mCons (mVar 2) mNil))) (gT (gTc (gN 14) (gTc (gN 15) gT0))) tT (m2 ixD (mVar 14) (mC (.int 0))) (mVar 15) [14, 15]) (mCons (mVar 4) mNil)))) (gN 11))
    (sSeq (sEx (mMeth "Run" "do_all" (gq (F_Run_do_all 12)) (mVar 11) (mCons (m2 ixD (mVar 10) (mVar 3)) mNil)))
    (sSeq (sAs (mA tupleD (mCons (mLc (mSrc (mVar 6)) (gN 14) tT (m2 ixA (m1 (fldD ["Run"] "cell_book") (mVar 11)) (m2 ixD (mVar 14) (mC (.int 0)))) [14]) mNil)) (gN 12))
    (sSeq (sAs (mA tupleD (mCons (mLc (mSrc (mVar 9)) (gN 16) (tOf (m2 (inDA false) (mVar 16) (m1 (fldD ["Run"] "alarm_book") (mVar 11)))) (mA tupD (mCons (mVar 16) (mCons (m2 ixA (m1 (fldD ["Run"] "alarm_book") (mVar 11)) (mVar 16)) mNil))) [16]) mNil)) (gN 13))
    (sRet (mA tupD (mCons (mVar 12) (mCons (mA tupleD (mCons (m1 (fldD ["Run"] "sent_list") (mVar 11)) mNil)) (mCons (mVar 13) (mCons (mA tupleD (mCons (m1 (fldD ["Run"] "said_list") (mVar 11)) mNil)) mNil)))))))))))
def F_is_station : List D → M D := fnM 13 2
    (sSeq (sIf (Fa.tOr (tNt (tOf (mA isiD (mCons (mVar 0) (mCons (mC (.ty "tuple")) mNil))))) (Fa.tOr (tOf (m2 (eqB true) (mA lenD (mCons (mVar 0) mNil)) (mC (.int 6)))) (tNt (tOf (mA (gq F_is_name) (mCons (m2 ixD (mVar 0) (mC (.int 0))) mNil)))))) (sRet (mC (.bl false))) sNx)
    (sSeq (sAs (mVar 0) (gT (gTc (gN 2) (gTc (gN 3) (gTc (gN 4) (gTc (gN 5) (gTc (gN 6) (gTc (gN 7) gT0))))))))
    (sSeq (sIf (Fa.tOr (tNt (tOf (mA (gq F_are_cells) (mCons (mVar 3) (mCons (mVar 1) mNil))))) (Fa.tOr (tNt (tOf (mA (gq F_are_names) (mCons (mVar 4) (mCons (mC (.int 3)) mNil))))) (tNt (tOf (mA (gq F_are_names) (mCons (mVar 5) (mCons (mC (.int 3)) mNil))))))) (sRet (mC (.bl false))) sNx)
    (sSeq (sIf (Fa.tOr (tNt (tOf (mA (gq F_are_names) (mCons (mVar 6) (mCons (mC (.int 2)) mNil))))) (Fa.tOr (tNt (tOf (mA isiD (mCons (mVar 7) (mCons (mC (.ty "tuple")) mNil))))) (tOf (m2 (eqB true) (mA lenD (mCons (mVar 7) mNil)) (m2 addD (mA lenD (mCons (mVar 6) mNil)) (mA lenD (mCons (mVar 4) mNil))))))) (sRet (mC (.bl false))) sNx)
    (sSeq (sAs (mA tupleD (mCons (mLc (mSrc (mVar 3)) (gN 10) tT (m2 ixD (mVar 10) (mC (.int 0))) [10]) mNil)) (gN 8))
    (sSeq (sAs (m2 addD (m2 addD (m2 addD (mVar 8) (mVar 4)) (mVar 5)) (mVar 6)) (gN 9))
    (sSeq (sIf (Fa.tOr (tOf (m2 (inD false) (mC (.str (PySem.Str.ofString "it"))) (mVar 9))) (tOf (m2 (eqB true) (mA lenD (mCons (mDc false (mSrc (mVar 9)) (gN 12) tT (mVar 12) (mC (.bl true)) [12]) mNil)) (mA lenD (mCons (mVar 9) mNil))))) (sRet (mC (.bl false))) sNx)
    (sRet (mA allD (mCons (mLc (mSrc (mVar 7)) (gN 11) tT (mA (dfl (gq (F_is_program 12)) [.int 1]) (mCons (mVar 11) (mCons (mA tupD (mCons (mVar 8) (mCons (mVar 5) (mCons (mVar 6) mNil)))) (mCons (mVar 1) mNil)))) [11]) mNil))))))))))
def F_are_stations : List D → M D := fnM 3 2
    (sSeq (sIf (Fa.tOr (tNt (tOf (mA isiD (mCons (mVar 0) (mCons (mC (.ty "tuple")) mNil))))) (Fa.tOr (tOf (m2 eqE (mVar 0) (mA tupD mNil))) (tNt (tOf (mA allD (mCons (mLc (mSrc (mVar 0)) (gN 2) tT (mA (gq F_is_station) (mCons (mVar 2) (mCons (mVar 1) mNil))) [2]) mNil)))))) (sRet (mC (.bl false))) sNx)
    (sRet (m2 (eqB false) (mA lenD (mCons (mDc false (mSrc (mVar 0)) (gN 2) tT (m2 ixD (mVar 2) (mC (.int 0))) (mC (.bl true)) [2]) mNil)) (mA lenD (mCons (mVar 0) mNil)))))
def F_is_model : List D → M D := fnM 5 1
    (sSeq (sIf (Fa.tOr (tNt (tOf (mA isiD (mCons (mVar 0) (mCons (mC (.ty "tuple")) mNil))))) (Fa.tOr (tOf (m2 (eqB true) (mA lenD (mCons (mVar 0) mNil)) (mC (.int 4)))) (tNt (tOf (mA (dfl (gq F_is_number) []) (mCons (m2 ixD (mVar 0) (mC (.int 0))) (mCons (mC (.int 2)) (mCons (mC (.int 6)) mNil)))))))) (sRet (mC (.bl false))) sNx)
    (sSeq (sAs (mVar 0) (gT (gTc (gN 1) (gTc (gN 2) (gTc (gN 3) (gTc (gN 4) gT0))))))
    (sRet (mAnd (mA (gq F_are_stations) (mCons (mVar 2) (mCons (mVar 1) mNil))) (mAnd (mA (gq F_are_lines_of) (mCons (mVar 3) (mCons (mVar 2) mNil))) (mA (gq F_are_firsts) (mCons (mVar 4) (mCons (mVar 1) (mCons (mVar 2) (mCons (mVar 3) mNil))))))))))
def F_check_model : List D → M D := fnM 1 1
    (sIf (tNt (tOf (mA (gq F_is_model) (mCons (mVar 0) mNil)))) sBad sNx)
def F_checked_station : List D → M D := fnM 3 2
    (sSeq (sEx (mA (gq F_check_model) (mCons (mVar 0) mNil)))
    (sSeq (sAs (mA (gq F_station_named) (mCons (m2 ixD (mVar 0) (mC (.int 1))) (mCons (mVar 1) mNil))) (gN 2))
    (sSeq (sIf (tOf (m2 (isN false) (mVar 2) (mC .non))) sBad sNx)
    (sRet (mVar 2)))))
def F_handled : List D → M D := fnM 8 5
    (sSeq (sPar 5 6 (mCons (mA (gq F_checked_station) (mCons (mVar 0) (mCons (mVar 1) mNil))) (mCons (m2 ixD (mVar 0) (mC (.int 0))) mNil)))
    (sSeq (sIf (tNt (tOf (mA (gq F_are_worths) (mCons (mVar 2) (mCons (mA lenD (mCons (m2 ixD (mVar 5) (mC (.int 1))) mNil)) (mCons (mVar 6) mNil)))))) sBad sNx)
    (sSeq (sAs (m2 addD (m2 ixD (mVar 5) (mC (.int 4))) (m2 ixD (mVar 5) (mC (.int 2)))) (gN 7))
    (sSeq (sIf (Fa.tOr (tNt (tOf (mA isiD (mCons (mVar 3) (mCons (mC (.ty "str")) mNil))))) (tOf (m2 (inD true) (mVar 3) (mVar 7)))) sBad sNx)
    (sSeq (sIf (tNt (tOf (mA (dfl (gq F_is_number) []) (mCons (mVar 4) (mCons (mC (.int 0)) (mCons (mIf (tOf (m2 (inD false) (mVar 3) (m2 ixD (mVar 5) (mC (.int 4))))) (mC (.int 0)) (m2 subD (mVar 6) (mC (.int 1)))) mNil)))))) sBad sNx)
    (sRet (mA (gq F_run_station) (mCons (mVar 6) (mCons (mVar 5) (mCons (mVar 2) (mCons (mTM idxA (mVar 7) (mCons (mVar 3) mNil)) (mCons (mVar 4) mNil))))))))))))
def F_l_right : List D → M D := fnM 17 1
    (sSeq (sAs (m2 addD (mC (.int 2)) (mA (gq F_l_take) (mCons (mVar 0) (mCons (mC (.int 5)) mNil)))) (gN 1))
    (sSeq (sAs (mA tupleD (mCons (mLc (mRng1 (mCons (mC (.int 3)) mNil)) (gN 15) tT (mA (gq F_l_take) (mCons (mVar 0) (mCons (mVar 1) mNil))) [15]) mNil)) (gN 2))
    (sSeq (sAs (mA (gq F_l_take) (mCons (mVar 0) (mCons (mVar 1) mNil))) (gN 3))
    (sSeq (sAs (mDisp (((mC (.str (PySem.Str.ofString "m"))), (m2 ixD (mVar 2) (mC (.int 0)))) :: ((mC (.str (PySem.Str.ofString "n"))), (m2 ixD (mVar 2) (mC (.int 1)))) :: ((mC (.str (PySem.Str.ofString "o"))), (m2 ixD (mVar 2) (mC (.int 2)))) :: ((mC (.str (PySem.Str.ofString "it"))), (mVar 3)) :: [])) (gN 4))
    (sSeq (sAs (mLc (mRng1 (mCons (mC (.int 6)) mNil)) (gN 15) tT (mA (gq (F_l_sum 12)) (mCons (mVar 0) (mCons (mA lstD (mCons (mC (.str (PySem.Str.ofString "m"))) (mCons (mC (.str (PySem.Str.ofString "n"))) (mCons (mC (.str (PySem.Str.ofString "o"))) (mCons (mC (.str (PySem.Str.ofString "it"))) mNil))))) (mCons (mVar 1) (mCons (mC (.int 3)) mNil))))) [15]) (gN 5))
    (sSeq (sAs (mLc (mSrc (mVar 5)) (gN 16) tT (m2 modD (mA intD (mCons (mA (gq (F_l_plain 12)) (mCons (mVar 16) (mCons (mVar 4) mNil))) mNil)) (mVar 1)) [16]) (gN 6))
    (sSeq (sAs (mA tupD (mCons (mA tupD (mCons (mC (.str (PySem.Str.ofString "say"))) (mCons (m2 ixD (mVar 5) (mC (.int 0))) mNil))) (mCons (mA tupD (mCons (mC (.str (PySem.Str.ofString "send"))) (mCons (mC (.str (PySem.Str.ofString "u"))) (mCons (m2 ixD (mVar 5) (mC (.int 1))) mNil)))) (mCons (mA tupD (mCons (mC (.str (PySem.Str.ofString "wait"))) (mCons (mC (.str (PySem.Str.ofString "k"))) (mCons (m2 ixD (mVar 5) (mC (.int 2))) mNil)))) (mCons (mA tupD (mCons (mC (.str (PySem.Str.ofString "repeat"))) (mCons (m2 ixD (mVar 5) (mC (.int 3))) (mCons (mA tupD (mCons (mA tupD (mCons (mC (.str (PySem.Str.ofString "say"))) (mCons (mC (.int 1)) mNil))) mNil)) mNil)))) mNil))))) (gN 7))
    (sSeq (sAs (m2 addD (mVar 7) (mA tupD (mCons (mA tupD (mCons (mC (.str (PySem.Str.ofString "if"))) (mCons (mA tupD (mCons (mC (.str (PySem.Str.ofString "<"))) (mCons (m2 ixD (mVar 5) (mC (.int 4))) (mCons (m2 ixD (mVar 5) (mC (.int 5))) mNil)))) (mCons (mA tupD (mCons (mA tupD (mCons (mC (.str (PySem.Str.ofString "say"))) (mCons (mC (.int 1)) mNil))) mNil)) (mCons (mA tupD (mCons (mA tupD (mCons (mC (.str (PySem.Str.ofString "say"))) (mCons (mC (.int 0)) mNil))) mNil)) mNil))))) (mCons (mA tupD (mCons (mC (.str (PySem.Str.ofString "set"))) (mCons (mC (.str (PySem.Str.ofString "m"))) (mCons (m2 ixD (mVar 5) (mC (.int 0))) mNil)))) mNil)))) (gN 7))
    (sSeq (sAs (mA tupD (mCons (mA tupD (mCons (mC (.str (PySem.Str.ofString "set"))) (mCons (mC (.str (PySem.Str.ofString "n"))) (mCons (m2 ixD (mVar 5) (mC (.int 1))) mNil)))) (mCons (mA tupD (mCons (mC (.str (PySem.Str.ofString "say"))) (mCons (mA tupD (mCons (mC (.str (PySem.Str.ofString "+"))) (mCons (mC (.str (PySem.Str.ofString "n"))) (mCons (mC (.str (PySem.Str.ofString "n"))) mNil)))) mNil))) (mCons (mA tupD (mCons (mC (.str (PySem.Str.ofString "if"))) (mCons (mA tupD (mCons (mC (.str (PySem.Str.ofString "="))) (mCons (mC (.str (PySem.Str.ofString "n"))) (mCons (m2 ixD (mVar 5) (mC (.int 2))) mNil)))) (mCons (mA tupD (mCons (mA tupD (mCons (mC (.str (PySem.Str.ofString "say"))) (mCons (mC (.int 1)) mNil))) mNil)) (mCons (mA tupD (mCons (mA tupD (mCons (mC (.str (PySem.Str.ofString "say"))) (mCons (mC (.int 0)) mNil))) mNil)) mNil))))) mNil)))) (gN 8))
    (sSeq (sAs (mA tupD (mCons (mA tupD (mCons (mC (.str (PySem.Str.ofString "m"))) (mCons (mC (.int 0)) mNil))) (mCons (mA tupD (mCons (mC (.str (PySem.Str.ofString "n"))) (mCons (mC (.int 0)) mNil))) (mCons (mA tupD (mCons (mC (.str (PySem.Str.ofString "o"))) (mCons (mC (.int 0)) mNil))) mNil)))) (gN 9))
    (sSeq (sAs (mA tupD (mCons (mC (.str (PySem.Str.ofString "st"))) (mCons (mVar 9) (mCons (mA tupD (mCons (mC (.str (PySem.Str.ofString "x"))) (mCons (mC (.str (PySem.Str.ofString "y"))) mNil))) (mCons (mA tupD (mCons (mC (.str (PySem.Str.ofString "u"))) mNil)) (mCons (mA tupD (mCons (mC (.str (PySem.Str.ofString "k"))) mNil)) (mCons (mA tupD (mCons (mA tupD mNil) (mCons (mVar 7) (mCons (mVar 8) mNil)))) mNil))))))) (gN 10))
    (sSeq (sAs (mA tupD (mCons (mVar 1) (mCons (mA tupD (mCons (mVar 10) mNil)) (mCons (mA tupD mNil) (mCons (mA tupD (mCons (mA tupD (mCons (mC (.int 0)) (mCons (mC (.str (PySem.Str.ofString "st"))) (mCons (mC (.str (PySem.Str.ofString "x"))) (mCons (mC (.int 0)) mNil))))) mNil)) mNil))))) (gN 11))
    (sSeq (sAs (m2 addD (m2 addD (mA tupD (mCons (m2 ixD (mVar 6) (mC (.int 0))) mNil)) (m2 mulB (mA tupD (mCons (mC (.int 1)) mNil)) (m2 ixD (mVar 6) (mC (.int 3))))) (mA tupD (mCons (mA intD (mCons (m2 ltD (m2 ixD (mVar 6) (mC (.int 4))) (m2 ixD (mVar 6) (mC (.int 5)))) mNil)) mNil))) (gN 12))
    (sSeq (sAs (mA (gq F_handled) (mCons (mVar 11) (mCons (mC (.str (PySem.Str.ofString "st"))) (mCons (mVar 2) (mCons (mC (.str (PySem.Str.ofString "x"))) (mCons (mVar 3) mNil)))))) (gN 13))
    (sSeq (sIf (tOf (m2 (eqB true) (mA reprD (mCons (mVar 13) mNil)) (mA reprD (mCons (mA tupD (mCons (m2 addD (mA tupD (mCons (m2 ixD (mVar 6) (mC (.int 0))) mNil)) (mSl (mVar 2) (mP (mC (.int 1))) mP0)) (mCons (mA tupD (mCons (mA tupD (mCons (mC (.str (PySem.Str.ofString "u"))) (mCons (m2 ixD (mVar 6) (mC (.int 1))) mNil))) mNil)) (mCons (mA tupD (mCons (mA tupD (mCons (mC (.str (PySem.Str.ofString "k"))) (mCons (m2 ixD (mVar 6) (mC (.int 2))) mNil))) mNil)) (mCons (mVar 12) mNil))))) mNil)))) (sRet (mC (.bl false))) sNx)
    (sSeq (sAs (m2 ixD (mVar 6) (mC (.int 1))) (gSubA (mVar 4) (mC (.str (PySem.Str.ofString "n")))))
    (sSeq (sAs (mA intD (mCons (m2 (eqB false) (m2 ixD (mVar 6) (mC (.int 1))) (m2 modD (mA intD (mCons (mA (gq (F_l_plain 12)) (mCons (m2 ixD (mVar 5) (mC (.int 2))) (mCons (mVar 4) mNil))) mNil)) (mVar 1))) mNil)) (gN 14))
    (sSeq (sAs (mA (gq F_handled) (mCons (mVar 11) (mCons (mC (.str (PySem.Str.ofString "st"))) (mCons (mVar 2) (mCons (mC (.str (PySem.Str.ofString "y"))) (mCons (mVar 3) mNil)))))) (gN 13))
    (sRet (m2 (eqB false) (mA reprD (mCons (mVar 13) mNil)) (mA reprD (mCons (mA tupD (mCons (mA tupD (mCons (m2 ixD (mVar 2) (mC (.int 0))) (mCons (m2 ixD (mVar 6) (mC (.int 1))) (mCons (m2 ixD (mVar 2) (mC (.int 2))) mNil)))) (mCons (mA tupD mNil) (mCons (mA tupD mNil) (mCons (mA tupD (mCons (m2 modD (mA intD (mCons (m2 mulB (mC (.int 2)) (m2 ixD (mVar 6) (mC (.int 1)))) mNil)) (mVar 1)) (mCons (mVar 14) mNil))) mNil))))) mNil))))))))))))))))))))))
def F_law : List D → M D := fnM 4 1
    (sSeq (sFor (mRng1 (mCons (mA maxD (mCons (mC (.int 1)) (mCons (mA minD (mCons (mC (.int 3)) (mCons (mA lenD (mCons (mVar 0) mNil)) mNil))) mNil))) mNil)) (gN 1) (sSeq (sAs (mA (gq F_l_pot) (mCons (mVar 0) (mCons (mVar 1) mNil))) (gN 2))
    (sIf (tNt (tOf (mA allD (mCons (mLc (mRng1 (mCons (mC (.int 20)) mNil)) (gN 3) tT (mA (gq F_l_right) (mCons (mVar 2) mNil)) [3]) mNil)))) (sRet (mC (.bl false))) sNx)))
    (sRet (mC (.bl true))))
end
end Lw
namespace Lw
open PySem PySem.Spec PyProof.Rows L2 Fa
def topS (i : Nat) : Stmt := PySem.Challenge.pw_farasnothing_k08_expressions_reckoned.main.body.getD i (.Pass ⟨0, 0, 0, 0⟩)
abbrev n_is_number : List Str := ["value", "least", "most"]
theorem sc_is_number : FnScope n_is_number ["value", "least", "most"] (defScope (topS 19)) := ⟨rfl, rfl, rfl, by decide +kernel, rfl, by decide +kernel, by decide +kernel⟩
abbrev n_is_name : List Str := ["value", "sign"]
theorem sc_is_name : FnScope n_is_name ["value"] (defScope (topS 20)) := ⟨rfl, rfl, rfl, by decide +kernel, rfl, by decide +kernel, by decide +kernel⟩
abbrev n_is_expression : List Str := ["value", "cells", "size", "within", "part"]
theorem sc_is_expression : FnScope n_is_expression ["value", "cells", "size", "within"] (defScope (topS 21)) := ⟨rfl, rfl, rfl, by decide +kernel, rfl, by decide +kernel, by decide +kernel⟩
abbrev n_is_condition : List Str := ["value", "cells", "size", "part"]
theorem sc_is_condition : FnScope n_is_condition ["value", "cells", "size"] (defScope (topS 22)) := ⟨rfl, rfl, rfl, by decide +kernel, rfl, by decide +kernel, by decide +kernel⟩
abbrev n_is_named : List Str := ["value", "names"]
theorem sc_is_named : FnScope n_is_named ["value", "names"] (defScope (topS 23)) := ⟨rfl, rfl, rfl, by decide +kernel, rfl, by decide +kernel, by decide +kernel⟩
abbrev n_is_statement : List Str := ["value", "ports", "size", "depth", "cells", "outs", "alarms", "names", "fine", "block"]
theorem sc_is_statement : FnScope n_is_statement ["value", "ports", "size", "depth"] (defScope (topS 24)) := ⟨rfl, rfl, rfl, by decide +kernel, rfl, by decide +kernel, by decide +kernel⟩
abbrev n_is_program : List Str := ["value", "ports", "size", "depth", "part"]
theorem sc_is_program : FnScope n_is_program ["value", "ports", "size", "depth"] (defScope (topS 25)) := ⟨rfl, rfl, rfl, by decide +kernel, rfl, by decide +kernel, by decide +kernel⟩
abbrev n_are_names : List Str := ["value", "most", "part"]
theorem sc_are_names : FnScope n_are_names ["value", "most"] (defScope (topS 37)) := ⟨rfl, rfl, rfl, by decide +kernel, rfl, by decide +kernel, by decide +kernel⟩
abbrev n_are_cells : List Str := ["value", "size", "name", "worth", "part"]
theorem sc_are_cells : FnScope n_are_cells ["value", "size"] (defScope (topS 38)) := ⟨rfl, rfl, rfl, by decide +kernel, rfl, by decide +kernel, by decide +kernel⟩
abbrev n_is_station : List Str := ["value", "size", "name", "cells", "ins", "outs", "alarms", "blocks", "cell_names", "each", "cell", "block", "one"]
theorem sc_is_station : FnScope n_is_station ["value", "size"] (defScope (topS 39)) := ⟨rfl, rfl, rfl, by decide +kernel, rfl, by decide +kernel, by decide +kernel⟩
abbrev n_are_stations : List Str := ["value", "size", "part"]
theorem sc_are_stations : FnScope n_are_stations ["value", "size"] (defScope (topS 40)) := ⟨rfl, rfl, rfl, by decide +kernel, rfl, by decide +kernel, by decide +kernel⟩
abbrev n_station_named : List Str := ["stations", "name", "found", "station"]
theorem sc_station_named : FnScope n_station_named ["stations", "name"] (defScope (topS 41)) := ⟨rfl, rfl, rfl, by decide +kernel, rfl, by decide +kernel, by decide +kernel⟩
abbrev n_is_line : List Str := ["value", "stations", "sender", "receiver"]
theorem sc_is_line : FnScope n_is_line ["value", "stations"] (defScope (topS 42)) := ⟨rfl, rfl, rfl, by decide +kernel, rfl, by decide +kernel, by decide +kernel⟩
abbrev n_are_lines_of : List Str := ["value", "stations", "begins", "ends", "part"]
theorem sc_are_lines_of : FnScope n_are_lines_of ["value", "stations"] (defScope (topS 43)) := ⟨rfl, rfl, rfl, by decide +kernel, rfl, by decide +kernel, by decide +kernel⟩
abbrev n_is_first : List Str := ["value", "size", "stations", "ends", "time", "name", "port", "worth", "station"]
theorem sc_is_first : FnScope n_is_first ["value", "size", "stations", "ends"] (defScope (topS 44)) := ⟨rfl, rfl, rfl, by decide +kernel, rfl, by decide +kernel, by decide +kernel⟩
abbrev n_are_firsts : List Str := ["value", "size", "stations", "lines", "ends", "bells", "line", "time", "name", "port", "worth", "bell", "part"]
theorem sc_are_firsts : FnScope n_are_firsts ["value", "size", "stations", "lines"] (defScope (topS 45)) := ⟨rfl, rfl, rfl, by decide +kernel, rfl, by decide +kernel, by decide +kernel⟩
abbrev n_is_model : List Str := ["value", "size", "stations", "lines", "firsts"]
theorem sc_is_model : FnScope n_is_model ["value"] (defScope (topS 46)) := ⟨rfl, rfl, rfl, by decide +kernel, rfl, by decide +kernel, by decide +kernel⟩
abbrev n_check_model : List Str := ["model"]
theorem sc_check_model : FnScope n_check_model ["model"] (defScope (topS 47)) := ⟨rfl, rfl, rfl, by decide +kernel, rfl, by decide +kernel, by decide +kernel⟩
abbrev n_checked_station : List Str := ["model", "station", "found"]
theorem sc_checked_station : FnScope n_checked_station ["model", "station"] (defScope (topS 48)) := ⟨rfl, rfl, rfl, by decide +kernel, rfl, by decide +kernel, by decide +kernel⟩
abbrev n_Run___init__ : List Str := ["self", "size", "cells", "it"]
theorem sc_Run___init__ : FnScope n_Run___init__ ["self", "size", "cells", "it"] (defScope (inClass (topS 50) 0)) := ⟨rfl, rfl, rfl, by decide +kernel, rfl, by decide +kernel, by decide +kernel⟩
abbrev n_Run_reckoned : List Str := ["self", "e", "sign", "first", "second", "told"]
theorem sc_Run_reckoned : FnScope n_Run_reckoned ["self", "e"] (defScope (inClass (topS 50) 1)) := ⟨rfl, rfl, rfl, by decide +kernel, rfl, by decide +kernel, by decide +kernel⟩
abbrev n_Run_is_so : List Str := ["self", "condition", "sign", "one", "other", "first", "second"]
theorem sc_Run_is_so : FnScope n_Run_is_so ["self", "condition"] (defScope (inClass (topS 50) 2)) := ⟨rfl, rfl, rfl, by decide +kernel, rfl, by decide +kernel, by decide +kernel⟩
abbrev n_Run_do_all : List Str := ["self", "block", "statement"]
theorem sc_Run_do_all : FnScope n_Run_do_all ["self", "block"] (defScope (inClass (topS 50) 3)) := ⟨rfl, rfl, rfl, by decide +kernel, rfl, by decide +kernel, by decide +kernel⟩
abbrev n_Run_do_one : List Str := ["self", "statement", "word", "turn"]
theorem sc_Run_do_one : FnScope n_Run_do_one ["self", "statement"] (defScope (inClass (topS 50) 4)) := ⟨rfl, rfl, rfl, by decide +kernel, rfl, by decide +kernel, by decide +kernel⟩
abbrev n_run_station : List Str := ["size", "station", "worths", "rank", "it", "name", "cells", "ins", "outs", "alarms", "blocks", "run", "behind", "touched", "cell", "worth", "alarm"]
theorem sc_run_station : FnScope n_run_station ["size", "station", "worths", "rank", "it"] (defScope (topS 51)) := ⟨rfl, rfl, rfl, by decide +kernel, rfl, by decide +kernel, by decide +kernel⟩
abbrev n_are_worths : List Str := ["value", "many", "size", "part"]
theorem sc_are_worths : FnScope n_are_worths ["value", "many", "size"] (defScope (topS 52)) := ⟨rfl, rfl, rfl, by decide +kernel, rfl, by decide +kernel, by decide +kernel⟩
abbrev n_handled : List Str := ["model", "station", "worths", "name", "it", "found", "size", "handlers"]
theorem sc_handled : FnScope n_handled ["model", "station", "worths", "name", "it"] (defScope (topS 53)) := ⟨rfl, rfl, rfl, by decide +kernel, rfl, by decide +kernel, by decide +kernel⟩
abbrev n_l_pot : List Str := ["_law_script", "_law_k", "_law_cell", "_law_own"]
theorem sc_l_pot : FnScope n_l_pot ["_law_script", "_law_k"] (defScope (topS 55)) := ⟨rfl, rfl, rfl, by decide +kernel, rfl, by decide +kernel, by decide +kernel⟩
abbrev n_l_take : List Str := ["_law_pot_here", "_law_upto", "_law_digit", "_law_prime", "_law_mixed"]
theorem sc_l_take : FnScope n_l_take ["_law_pot_here", "_law_upto"] (defScope (topS 56)) := ⟨rfl, rfl, rfl, by decide +kernel, rfl, by decide +kernel, by decide +kernel⟩
abbrev n_l_of : List Str := ["_law_pot_here", "_law_some"]
theorem sc_l_of : FnScope n_l_of ["_law_pot_here", "_law_some"] (defScope (topS 57)) := ⟨rfl, rfl, rfl, by decide +kernel, rfl, by decide +kernel, by decide +kernel⟩
abbrev n_l_sum : List Str := ["_law_pot_here", "_law_names", "_law_size", "_law_deep", "_law_sign"]
theorem sc_l_sum : FnScope n_l_sum ["_law_pot_here", "_law_names", "_law_size", "_law_deep"] (defScope (topS 58)) := ⟨rfl, rfl, rfl, by decide +kernel, rfl, by decide +kernel, by decide +kernel⟩
abbrev n_l_plain : List Str := ["_law_e", "_law_held", "_law_one", "_law_other"]
theorem sc_l_plain : FnScope n_l_plain ["_law_e", "_law_held"] (defScope (topS 59)) := ⟨rfl, rfl, rfl, by decide +kernel, rfl, by decide +kernel, by decide +kernel⟩
abbrev n_l_right : List Str := ["_law_pot_here", "_law_size", "_law_worths", "_law_it", "_law_held", "_law_some", "_law_due", "_law_program", "_law_after", "_law_cells", "_law_first", "_law_model", "_law_said", "_law_told", "_law_test", "_law_turn", "_law_e"]
theorem sc_l_right : FnScope n_l_right ["_law_pot_here"] (defScope (topS 60)) := ⟨rfl, rfl, rfl, by decide +kernel, rfl, by decide +kernel, by decide +kernel⟩
abbrev n_law : List Str := ["_law_script", "_law_k", "_law_pot_here", "_law_turn"]
theorem sc_law : FnScope n_law ["_law_script"] (defScope (topS 61)) := ⟨rfl, rfl, rfl, by decide +kernel, rfl, by decide +kernel, by decide +kernel⟩
/-! FEND -/
def kv_PARTS : List (Str × V) := [((PySem.Str.ofString "set"), .int 3), ((PySem.Str.ofString "send"), .int 3), ((PySem.Str.ofString "wait"), .int 3), ((PySem.Str.ofString "drop"), .int 2), ((PySem.Str.ofString "say"), .int 2), ((PySem.Str.ofString "if"), .int 4), ((PySem.Str.ofString "repeat"), .int 3)]
theorem kf_PARTS : KFlat kv_PARTS kd_PARTS := (.cons ⟨rfl, fun _ _ _ => .int _⟩ (.cons ⟨rfl, fun _ _ _ => .int _⟩ (.cons ⟨rfl, fun _ _ _ => .int _⟩ (.cons ⟨rfl, fun _ _ _ => .int _⟩ (.cons ⟨rfl, fun _ _ _ => .int _⟩ (.cons ⟨rfl, fun _ _ _ => .int _⟩ (.cons ⟨rfl, fun _ _ _ => .int _⟩ .nil)))))))
structure Tx (w : World) (K : PySem.W.Frag) (mg : Str → Option Value) where
  f_is_number : Addr
  d_is_number : FuncData
  u_is_number : FunE K "is_number" "is_number" (topS 19) [.non] f_is_number d_is_number
  g_is_number : mg "is_number" = some (.ref f_is_number)
  b_is_number_0 : ∃ us, Vals [.non] us ∧ Binds K d_is_number ["value", "least", "most"] us
  b_is_number_1 : ∃ us, Vals [] us ∧ Binds K d_is_number ["value", "least", "most"] us
  f_is_name : Addr
  d_is_name : FuncData
  u_is_name : Fun K "is_name" "is_name" (topS 20) f_is_name d_is_name
  g_is_name : mg "is_name" = some (.ref f_is_name)
  b_is_name : Binds K d_is_name ["value"] []
  f_is_expression : Addr
  d_is_expression : FuncData
  u_is_expression : FunE K "is_expression" "is_expression" (topS 21) [.int 3] f_is_expression d_is_expression
  g_is_expression : mg "is_expression" = some (.ref f_is_expression)
  b_is_expression_0 : ∃ us, Vals [.int 3] us ∧ Binds K d_is_expression ["value", "cells", "size", "within"] us
  b_is_expression_1 : ∃ us, Vals [] us ∧ Binds K d_is_expression ["value", "cells", "size", "within"] us
  f_is_condition : Addr
  d_is_condition : FuncData
  u_is_condition : Fun K "is_condition" "is_condition" (topS 22) f_is_condition d_is_condition
  g_is_condition : mg "is_condition" = some (.ref f_is_condition)
  b_is_condition : Binds K d_is_condition ["value", "cells", "size"] []
  f_is_named : Addr
  d_is_named : FuncData
  u_is_named : Fun K "is_named" "is_named" (topS 23) f_is_named d_is_named
  g_is_named : mg "is_named" = some (.ref f_is_named)
  b_is_named : Binds K d_is_named ["value", "names"] []
  f_is_statement : Addr
  d_is_statement : FuncData
  u_is_statement : Fun K "is_statement" "is_statement" (topS 24) f_is_statement d_is_statement
  g_is_statement : mg "is_statement" = some (.ref f_is_statement)
  b_is_statement : Binds K d_is_statement ["value", "ports", "size", "depth"] []
  f_is_program : Addr
  d_is_program : FuncData
  u_is_program : FunE K "is_program" "is_program" (topS 25) [.int 1] f_is_program d_is_program
  g_is_program : mg "is_program" = some (.ref f_is_program)
  b_is_program_0 : ∃ us, Vals [.int 1] us ∧ Binds K d_is_program ["value", "ports", "size", "depth"] us
  b_is_program_1 : ∃ us, Vals [] us ∧ Binds K d_is_program ["value", "ports", "size", "depth"] us
  f_are_names : Addr
  d_are_names : FuncData
  u_are_names : Fun K "are_names" "are_names" (topS 37) f_are_names d_are_names
  g_are_names : mg "are_names" = some (.ref f_are_names)
  b_are_names : Binds K d_are_names ["value", "most"] []
  f_are_cells : Addr
  d_are_cells : FuncData
  u_are_cells : Fun K "are_cells" "are_cells" (topS 38) f_are_cells d_are_cells
  g_are_cells : mg "are_cells" = some (.ref f_are_cells)
  b_are_cells : Binds K d_are_cells ["value", "size"] []
  f_is_station : Addr
  d_is_station : FuncData
  u_is_station : Fun K "is_station" "is_station" (topS 39) f_is_station d_is_station
  g_is_station : mg "is_station" = some (.ref f_is_station)
  b_is_station : Binds K d_is_station ["value", "size"] []
  f_are_stations : Addr
  d_are_stations : FuncData
  u_are_stations : Fun K "are_stations" "are_stations" (topS 40) f_are_stations d_are_stations
  g_are_stations : mg "are_stations" = some (.ref f_are_stations)
  b_are_stations : Binds K d_are_stations ["value", "size"] []
  f_station_named : Addr
  d_station_named : FuncData
  u_station_named : Fun K "station_named" "station_named" (topS 41) f_station_named d_station_named
  g_station_named : mg "station_named" = some (.ref f_station_named)
  b_station_named : Binds K d_station_named ["stations", "name"] []
  f_is_line : Addr
  d_is_line : FuncData
  u_is_line : Fun K "is_line" "is_line" (topS 42) f_is_line d_is_line
  g_is_line : mg "is_line" = some (.ref f_is_line)
  b_is_line : Binds K d_is_line ["value", "stations"] []
  f_are_lines_of : Addr
  d_are_lines_of : FuncData
  u_are_lines_of : Fun K "are_lines_of" "are_lines_of" (topS 43) f_are_lines_of d_are_lines_of
  g_are_lines_of : mg "are_lines_of" = some (.ref f_are_lines_of)
  b_are_lines_of : Binds K d_are_lines_of ["value", "stations"] []
  f_is_first : Addr
  d_is_first : FuncData
  u_is_first : Fun K "is_first" "is_first" (topS 44) f_is_first d_is_first
  g_is_first : mg "is_first" = some (.ref f_is_first)
  b_is_first : Binds K d_is_first ["value", "size", "stations", "ends"] []
  f_are_firsts : Addr
  d_are_firsts : FuncData
  u_are_firsts : Fun K "are_firsts" "are_firsts" (topS 45) f_are_firsts d_are_firsts
  g_are_firsts : mg "are_firsts" = some (.ref f_are_firsts)
  b_are_firsts : Binds K d_are_firsts ["value", "size", "stations", "lines"] []
  f_is_model : Addr
  d_is_model : FuncData
  u_is_model : Fun K "is_model" "is_model" (topS 46) f_is_model d_is_model
  g_is_model : mg "is_model" = some (.ref f_is_model)
  b_is_model : Binds K d_is_model ["value"] []
  f_check_model : Addr
  d_check_model : FuncData
  u_check_model : Fun K "check_model" "check_model" (topS 47) f_check_model d_check_model
  g_check_model : mg "check_model" = some (.ref f_check_model)
  b_check_model : Binds K d_check_model ["model"] []
  f_checked_station : Addr
  d_checked_station : FuncData
  u_checked_station : Fun K "checked_station" "checked_station" (topS 48) f_checked_station d_checked_station
  g_checked_station : mg "checked_station" = some (.ref f_checked_station)
  b_checked_station : Binds K d_checked_station ["model", "station"] []
  f_Run___init__ : Addr
  d_Run___init__ : FuncData
  u_Run___init__ : Fun K "__init__" "Run.__init__" (inClass (topS 50) 0) f_Run___init__ d_Run___init__
  mi_Run___init__ : MtI K "Run" "__init__" f_Run___init__
  b_Run___init__ : Binds K d_Run___init__ ["self", "size", "cells", "it"] []
  f_Run_reckoned : Addr
  d_Run_reckoned : FuncData
  u_Run_reckoned : Fun K "reckoned" "Run.reckoned" (inClass (topS 50) 1) f_Run_reckoned d_Run_reckoned
  mi_Run_reckoned : MtI K "Run" "reckoned" f_Run_reckoned
  b_Run_reckoned : Binds K d_Run_reckoned ["self", "e"] []
  f_Run_is_so : Addr
  d_Run_is_so : FuncData
  u_Run_is_so : Fun K "is_so" "Run.is_so" (inClass (topS 50) 2) f_Run_is_so d_Run_is_so
  mi_Run_is_so : MtI K "Run" "is_so" f_Run_is_so
  b_Run_is_so : Binds K d_Run_is_so ["self", "condition"] []
  f_Run_do_all : Addr
  d_Run_do_all : FuncData
  u_Run_do_all : Fun K "do_all" "Run.do_all" (inClass (topS 50) 3) f_Run_do_all d_Run_do_all
  mi_Run_do_all : MtI K "Run" "do_all" f_Run_do_all
  b_Run_do_all : Binds K d_Run_do_all ["self", "block"] []
  f_Run_do_one : Addr
  d_Run_do_one : FuncData
  u_Run_do_one : Fun K "do_one" "Run.do_one" (inClass (topS 50) 4) f_Run_do_one d_Run_do_one
  mi_Run_do_one : MtI K "Run" "do_one" f_Run_do_one
  b_Run_do_one : Binds K d_Run_do_one ["self", "statement"] []
  f_run_station : Addr
  d_run_station : FuncData
  u_run_station : Fun K "run_station" "run_station" (topS 51) f_run_station d_run_station
  g_run_station : mg "run_station" = some (.ref f_run_station)
  b_run_station : Binds K d_run_station ["size", "station", "worths", "rank", "it"] []
  f_are_worths : Addr
  d_are_worths : FuncData
  u_are_worths : Fun K "are_worths" "are_worths" (topS 52) f_are_worths d_are_worths
  g_are_worths : mg "are_worths" = some (.ref f_are_worths)
  b_are_worths : Binds K d_are_worths ["value", "many", "size"] []
  f_handled : Addr
  d_handled : FuncData
  u_handled : Fun K "handled" "handled" (topS 53) f_handled d_handled
  g_handled : mg "handled" = some (.ref f_handled)
  b_handled : Binds K d_handled ["model", "station", "worths", "name", "it"] []
  f_l_pot : Addr
  d_l_pot : FuncData
  u_l_pot : Fun K "_law_pot" "_law_pot" (topS 55) f_l_pot d_l_pot
  g_l_pot : mg "_law_pot" = some (.ref f_l_pot)
  b_l_pot : Binds K d_l_pot ["_law_script", "_law_k"] []
  f_l_take : Addr
  d_l_take : FuncData
  u_l_take : Fun K "_law_take" "_law_take" (topS 56) f_l_take d_l_take
  g_l_take : mg "_law_take" = some (.ref f_l_take)
  b_l_take : Binds K d_l_take ["_law_pot_here", "_law_upto"] []
  f_l_of : Addr
  d_l_of : FuncData
  u_l_of : Fun K "_law_of" "_law_of" (topS 57) f_l_of d_l_of
  g_l_of : mg "_law_of" = some (.ref f_l_of)
  b_l_of : Binds K d_l_of ["_law_pot_here", "_law_some"] []
  f_l_sum : Addr
  d_l_sum : FuncData
  u_l_sum : Fun K "_law_sum" "_law_sum" (topS 58) f_l_sum d_l_sum
  g_l_sum : mg "_law_sum" = some (.ref f_l_sum)
  b_l_sum : Binds K d_l_sum ["_law_pot_here", "_law_names", "_law_size", "_law_deep"] []
  f_l_plain : Addr
  d_l_plain : FuncData
  u_l_plain : Fun K "_law_plain" "_law_plain" (topS 59) f_l_plain d_l_plain
  g_l_plain : mg "_law_plain" = some (.ref f_l_plain)
  b_l_plain : Binds K d_l_plain ["_law_e", "_law_held"] []
  f_l_right : Addr
  d_l_right : FuncData
  u_l_right : Fun K "_law_right" "_law_right" (topS 60) f_l_right d_l_right
  g_l_right : mg "_law_right" = some (.ref f_l_right)
  b_l_right : Binds K d_l_right ["_law_pot_here"] []
  f_law : Addr
  d_law : FuncData
  u_law : Fun K "law" "law" (topS 61) f_law d_law
  g_law : mg "law" = some (.ref f_law)
  b_law : Binds K d_law ["_law_script"] []
  C_Run : Addr
  g_Run : mg "Run" = some (.ref C_Run)
  mk_Run : MkI K "Run" f_Run___init__ C_Run
  at_Run_run_size : AtI K "Run" "run_size"
  at_Run_cell_book : AtI K "Run" "cell_book"
  at_Run_letter_worth : AtI K "Run" "letter_worth"
  at_Run_sent_list : AtI K "Run" "sent_list"
  at_Run_alarm_book : AtI K "Run" "alarm_book"
  at_Run_said_list : AtI K "Run" "said_list"
  z_abs : mg "abs" = none
  z_all : mg "all" = none
  z_bool : mg "bool" = none
  z_int : mg "int" = none
  z_isinstance : mg "isinstance" = none
  z_len : mg "len" = none
  z_max : mg "max" = none
  z_min : mg "min" = none
  z_range : mg "range" = none
  z_repr : mg "repr" = none
  z_str : mg "str" = none
  z_tuple : mg "tuple" = none
  z_zip : mg "zip" = none
  a_COMPARISONS : Addr
  c_COMPARISONS : mg "COMPARISONS" = some (.ref a_COMPARISONS)
  q_COMPARISONS : SqK K a_COMPARISONS [.str (PySem.Str.ofString "="), .str (PySem.Str.ofString "<")]
  t_DEEPEST : Tok
  c_DEEPEST : mg "DEEPEST" = some (.int 3 t_DEEPEST)
  t_FIRST_PARTS : Tok
  c_FIRST_PARTS : mg "FIRST_PARTS" = some (.int 4 t_FIRST_PARTS)
  t_IT : Tok
  c_IT : mg "IT" = some (.str (PySem.Str.ofString "it") t_IT)
  t_LEAST_SIZE : Tok
  c_LEAST_SIZE : mg "LEAST_SIZE" = some (.int 2 t_LEAST_SIZE)
  t_LETTERS : Tok
  c_LETTERS : mg "LETTERS" = some (.str (PySem.Str.ofString "abcdefghijklmnopqrstuvwxyz") t_LETTERS)
  t_LINE_PARTS : Tok
  c_LINE_PARTS : mg "LINE_PARTS" = some (.int 5 t_LINE_PARTS)
  t_MODEL_PARTS : Tok
  c_MODEL_PARTS : mg "MODEL_PARTS" = some (.int 4 t_MODEL_PARTS)
  t_MOST_ALARMS : Tok
  c_MOST_ALARMS : mg "MOST_ALARMS" = some (.int 2 t_MOST_ALARMS)
  t_MOST_DELAY : Tok
  c_MOST_DELAY : mg "MOST_DELAY" = some (.int 20 t_MOST_DELAY)
  t_MOST_LETTERS : Tok
  c_MOST_LETTERS : mg "MOST_LETTERS" = some (.int 8 t_MOST_LETTERS)
  t_MOST_PORTS : Tok
  c_MOST_PORTS : mg "MOST_PORTS" = some (.int 3 t_MOST_PORTS)
  t_MOST_SIZE : Tok
  c_MOST_SIZE : mg "MOST_SIZE" = some (.int 6 t_MOST_SIZE)
  t_MOST_STATEMENTS : Tok
  c_MOST_STATEMENTS : mg "MOST_STATEMENTS" = some (.int 6 t_MOST_STATEMENTS)
  a_NAMED : Addr
  c_NAMED : mg "NAMED" = some (.ref a_NAMED)
  q_NAMED : SqK K a_NAMED [.str (PySem.Str.ofString "set"), .str (PySem.Str.ofString "send"), .str (PySem.Str.ofString "wait")]
  t_PAIR : Tok
  c_PAIR : mg "PAIR" = some (.int 2 t_PAIR)
  a_PARTS : Addr
  c_PARTS : mg "PARTS" = some (.ref a_PARTS)
  q_PARTS : KD K w a_PARTS kv_PARTS
  a_SIGNS : Addr
  c_SIGNS : mg "SIGNS" = some (.ref a_SIGNS)
  q_SIGNS : SqK K a_SIGNS [.str (PySem.Str.ofString "+"), .str (PySem.Str.ofString "-"), .str (PySem.Str.ofString "*")]
  t_STATION_PARTS : Tok
  c_STATION_PARTS : mg "STATION_PARTS" = some (.int 6 t_STATION_PARTS)
  t_TRIPLE : Tok
  c_TRIPLE : mg "TRIPLE" = some (.int 3 t_TRIPLE)
section
variable {P : Program} {w : World} {K : PySem.W.Frag} {mg : Str → Option Value} {base : Heap} (T : Tx w K mg)
include T
theorem G_Run___init__ : FnG P w K mg base 1 T.f_Run___init__ T.d_Run___init__ ["self", "size", "cells", "it"] F_Run___init__ :=
  fnG_mkX (k := 0) (.of T.u_Run___init__) sc_Run___init__ fun cdv A outer s H E hr hgd tk =>
      (sb_cons (ss_as (se_var 1 (pv 1)) (sg_fld (cs := ["Run"]) (atC T.at_Run_run_size atN) (se_var 0 (pv 0))))
      (sb_cons (ss_as (se_tup (sa_cons (se_var 2 (pv 2)) (sa_cons (se_var 3 (pv 3)) sa_nil))) (sg_tup rfl (sgs_cons (sg_fld (cs := ["Run"]) (atC T.at_Run_cell_book atN) (se_var 0 (pv 0))) (sgs_cons (sg_fld (cs := ["Run"]) (atC T.at_Run_letter_worth atN) (se_var 0 (pv 0))) sgs_nil gT0_noerr) (gTc_noerr gFld_noerr gT0_noerr)) (by rfl) (gTc_len (gTc_len gT0_len)) (gTc_noerr gFld_noerr (gTc_noerr gFld_noerr gT0_noerr))))
      (sb_one (ss_as (se_tup (sa_cons (se_lst sa_nil) (sa_cons se_dct0 (sa_cons (se_lst sa_nil) sa_nil)))) (sg_tup rfl (sgs_cons (sg_fld (cs := ["Run"]) (atC T.at_Run_sent_list atN) (se_var 0 (pv 0))) (sgs_cons (sg_fld (cs := ["Run"]) (atC T.at_Run_alarm_book atN) (se_var 0 (pv 0))) (sgs_cons (sg_fld (cs := ["Run"]) (atC T.at_Run_said_list atN) (se_var 0 (pv 0))) sgs_nil gT0_noerr) (gTc_noerr gFld_noerr gT0_noerr)) (gTc_noerr gFld_noerr (gTc_noerr gFld_noerr gT0_noerr))) (by rfl) (gTc_len (gTc_len (gTc_len gT0_len))) (gTc_noerr gFld_noerr (gTc_noerr gFld_noerr (gTc_noerr gFld_noerr gT0_noerr))))))))
theorem G_l_pot : FnG P w K mg base 1 T.f_l_pot T.d_l_pot ["_law_script", "_law_k"] F_l_pot :=
  fnG_mkX (k := 0) (.of T.u_l_pot) sc_l_pot fun cdv A outer s H E hr hgd tk =>
      (sb_cons (ss_set (i := 2) sc_l_pot.nd rfl (by first | exact Or.inl rfl | exact Or.inr rfl) (se_if (st_cmp (op_ltA hr.units0) o_ord (se_var 1 (pv 1)) (se_callB call_lenAll o_len (by rfl) T.z_len (by decide +kernel) (sa_cons (se_var 0 (pv 0)) sa_nil)) (nomark _)) (se_ix ix_seq o_ix (se_var 0 (pv 0)) (se_var 1 (pv 1)) (fun _ _ => rfl)) (se_op op_addAll o_add (se_op op_mulB o_mulB se_int (se_var 1 (pv 1))) se_int)))
      (sb_cons (ss_set (i := 3) sc_l_pot.nd rfl (by first | exact Or.inl rfl | exact Or.inr rfl) (se_op op_mulB o_mulB (se_op op_modN o_mod (se_callTy call_int1 o_int (by rfl) T.z_int (by decide +kernel) (sa_cons (se_callB call_abs o_abs (by rfl) T.z_abs (by decide +kernel) (sa_cons (se_var 2 (pv 2)) sa_nil)) sa_nil)) (se_op op_powG o_pow (se_op op_powG o_pow se_int se_int) se_int)) (se_callTy call_int1 o_int (by rfl) T.z_int (by decide +kernel) (sa_cons (se_cmp (op_geA hr.units0) o_ord (se_callB call_abs o_abs (by rfl) T.z_abs (by decide +kernel) (sa_cons (se_var 2 (pv 2)) sa_nil)) (se_op op_powG o_pow se_int se_int) (nomark _)) sa_nil))))
      (sb_one (ss_ret (se_lst (sa_cons (se_var 3 (pv 3)) (sa_cons (se_op op_modN o_mod (se_callTy call_int1 o_int (by rfl) T.z_int (by decide +kernel) (sa_cons (se_op op_addAll o_add (se_op op_addAll o_add (se_op op_mulB o_mulB (se_op op_modN o_mod (se_callTy call_int1 o_int (by rfl) T.z_int (by decide +kernel) (sa_cons (se_var 2 (pv 2)) sa_nil)) se_int) se_int) (se_op op_mulB o_mulB (se_op op_mulB o_mulB se_int (se_var 1 (pv 1))) (se_var 1 (pv 1)))) se_int) sa_nil)) se_int) (sa_cons se_int sa_nil))))))))
theorem G_l_take : FnG P w K mg base 1 T.f_l_take T.d_l_take ["_law_pot_here", "_law_upto"] F_l_take :=
  fnG_mkX (k := 0) (.of T.u_l_take) sc_l_take fun cdv A outer s H E hr hgd tk =>
      (sb_cons (ss_if (st_cmp (op_gtA hr.units0) o_ord (se_ix ix_seq o_ix (se_var 0 (pv 0)) se_int (fun _ _ => rfl)) se_int (nomark _)) (sb_cons (ss_set (i := 2) sc_l_take.nd rfl (by first | exact Or.inl rfl | exact Or.inr rfl) (se_op op_modN o_mod (se_callTy call_int1 o_int (by rfl) T.z_int (by decide +kernel) (sa_cons (se_ix ix_seq o_ix (se_var 0 (pv 0)) se_int (fun _ _ => rfl)) sa_nil)) (se_var 1 (pv 1))))
      (sb_cons (ss_as (se_op op_fdivN o_fdiv (se_ix ix_seq o_ix (se_var 0 (pv 0)) se_int (fun _ _ => rfl)) (se_var 1 (pv 1))) (sg_sub (se_var 0 (pv 0)) se_int))
      (sb_one (ss_ret (se_var 2 (pv 2)))))) sb_nil)
      (sb_cons (ss_as (se_op op_addAll o_add (se_ix ix_seq o_ix (se_var 0 (pv 0)) se_int (fun _ _ => rfl)) se_int) (sg_sub (se_var 0 (pv 0)) se_int))
      (sb_cons (ss_set (i := 3) sc_l_take.nd rfl (by first | exact Or.inl rfl | exact Or.inr rfl) (se_ix ix_seq o_ix (se_lst (sa_cons se_int (sa_cons se_int (sa_cons se_int (sa_cons se_int (sa_cons se_int sa_nil)))))) (se_op op_modN o_mod (se_callTy call_int1 o_int (by rfl) T.z_int (by decide +kernel) (sa_cons (se_ix ix_seq o_ix (se_var 0 (pv 0)) se_int (fun _ _ => rfl)) sa_nil)) se_int) (fun _ _ => rfl)))
      (sb_cons (ss_set (i := 4) sc_l_take.nd rfl (by first | exact Or.inl rfl | exact Or.inr rfl) (se_op op_modN o_mod (se_callTy call_int1 o_int (by rfl) T.z_int (by decide +kernel) (sa_cons (se_op op_powG o_pow (se_callTy call_int1 o_int (by rfl) T.z_int (by decide +kernel) (sa_cons (se_op op_addAll o_add (se_op op_addAll o_add (se_ix ix_seq o_ix (se_var 0 (pv 0)) se_int (fun _ _ => rfl)) (se_op op_mulB o_mulB (se_op op_mulB o_mulB se_int (se_ix ix_seq o_ix (se_var 0 (pv 0)) se_int (fun _ _ => rfl))) (se_ix ix_seq o_ix (se_var 0 (pv 0)) se_int (fun _ _ => rfl)))) se_int) sa_nil)) se_int) sa_nil)) (se_var 3 (pv 3))))
      (sb_cons (ss_set (i := 4) sc_l_take.nd rfl (by first | exact Or.inl rfl | exact Or.inr rfl) (se_op op_modN o_mod (se_callTy call_int1 o_int (by rfl) T.z_int (by decide +kernel) (sa_cons (se_op op_mulB o_mulB (se_var 4 (pv 4)) (se_op op_addAll o_add (se_op op_modN o_mod (se_callTy call_int1 o_int (by rfl) T.z_int (by decide +kernel) (sa_cons (se_var 4 (pv 4)) sa_nil)) se_int) (se_op op_mulB o_mulB se_int (se_ix ix_seq o_ix (se_var 0 (pv 0)) se_int (fun _ _ => rfl))))) sa_nil)) se_int))
      (sb_one (ss_ret (se_op op_modN o_mod (se_callTy call_int1 o_int (by rfl) T.z_int (by decide +kernel) (sa_cons (se_op op_fdivN o_fdiv (se_var 4 (pv 4)) se_int) sa_nil)) (se_var 1 (pv 1))))))))))
theorem G_is_name : FnG P w K mg base 1 T.f_is_name T.d_is_name ["value"] F_is_name :=
  fnG_mkX (k := 0) (.of T.u_is_name) sc_is_name fun cdv A outer s H E hr hgd tk =>
      (sb_cons (ss_if (PW.pt (sw_or (st_not (st_of (se_callB call_isi o_isi (by rfl) T.z_isinstance (by decide +kernel) (sa_cons (se_var 0 (pv 0)) (sa_cons (se_c (v := .ty "str") (pe_bltn (u := .type "str") (by rfl) T.z_str (by decide +kernel) rfl) fun _ _ _ => .ty "str") sa_nil))))) (sw_or1 (st_not (st_chain (op_leA hr.units0) o_ord (op_leA hr.units0) o_ord se_int (se_callB call_lenAll o_len (by rfl) T.z_len (by decide +kernel) (sa_cons (se_var 0 (pv 0)) sa_nil)) (se_c (v := .int 8) (pe_glob (by rfl) T.c_MOST_LETTERS ⟨_, rfl⟩) fun _ _ _ => .int 8)))))) (sb_one (ss_ret se_bl)) sb_nil)
      (sb_one (ss_ret (se_callB (cr_all rfl) o_all (by rfl) T.z_all (by decide +kernel) (sa_cons (se_lc (own := [("sign", 1)]) rfl sc_is_name.nd (si_any (se_var 0 (pv 0))) (blkOk_by (N := n_is_name) (sc := defScope (topS 20)) (by decide +kernel)) (fun _ _ _ _ _ => (sg_name (pg_name (i := 1) sc_is_name.nd rfl (by first | exact Or.inl rfl | exact Or.inr rfl)))) (fun _ _ _ _ _ => pts0) (fun _ _ _ _ _ => (se_cmp (op_inA (units65 hr)) o_in (se_var 1 (pv 1)) (se_c (v := .str (PySem.Str.ofString "abcdefghijklmnopqrstuvwxyz")) (pe_glob (by rfl) T.c_LETTERS ⟨_, rfl⟩) fun _ _ _ => .str _) (by with_unfolding_all rfl)))) sa_nil)))))
theorem G_is_named : FnG P w K mg base 1 T.f_is_named T.d_is_named ["value", "names"] F_is_named :=
  fnG_mkX (k := 0) (.of T.u_is_named) sc_is_named fun cdv A outer s H E hr hgd tk =>
      (sb_one (ss_ret (se_and (se_callB call_isi o_isi (by rfl) T.z_isinstance (by decide +kernel) (sa_cons (se_var 0 (pv 0)) (sa_cons (se_c (v := .ty "str") (pe_bltn (u := .type "str") (by rfl) T.z_str (by decide +kernel) rfl) fun _ _ _ => .ty "str") sa_nil))) (se_one (se_cmp (op_inA (units65 hr)) o_in (se_var 0 (pv 0)) (se_var 1 (pv 1)) (by with_unfolding_all rfl))))))
theorem G_is_number : FnG P w K mg base 1 T.f_is_number T.d_is_number ["value", "least", "most"] F_is_number :=
  fnG_mkX (k := 0) (.ofD T.u_is_number) sc_is_number fun cdv A outer s H E hr hgd tk =>
      (sb_cons (ss_if (PW.pt (sw_or (st_not (st_of (se_callB call_isi o_isi (by rfl) T.z_isinstance (by decide +kernel) (sa_cons (se_var 0 (pv 0)) (sa_cons (se_c (v := .ty "int") (pe_bltn (u := .type "int") (by rfl) T.z_int (by decide +kernel) rfl) fun _ _ _ => .ty "int") sa_nil))))) (sw_or1 (st_of (se_callB call_isi o_isi (by rfl) T.z_isinstance (by decide +kernel) (sa_cons (se_var 0 (pv 0)) (sa_cons (se_c (v := .ty "bool") (pe_bltn (u := .type "bool") (by rfl) T.z_bool (by decide +kernel) rfl) fun _ _ _ => .ty "bool") sa_nil))))))) (sb_one (ss_ret se_bl)) sb_nil)
      (sb_one (ss_ret (se_and (se_cmp (op_geA hr.units0) o_ord (se_var 0 (pv 0)) (se_var 1 (pv 1)) (nomark _)) (se_one (se_or (se_cmp op_isN o_isN (se_var 2 (pv 2)) se_non (nomark _)) (se_one (se_cmp (op_leA hr.units0) o_ord (se_var 0 (pv 0)) (se_var 2 (pv 2)) (nomark _)))))))))
theorem G_station_named : FnG P w K mg base 1 T.f_station_named T.d_station_named ["stations", "name"] F_station_named :=
  fnG_mkX (k := 0) (.of T.u_station_named) sc_station_named fun cdv A outer s H E hr hgd tk =>
      (sb_cons (ss_setLc (i := 2) (own := [("station", 3)]) rfl sc_station_named.nd rfl rfl (sw_true rfl rfl rfl (by decide +kernel)) (si_any (se_var 0 (pv 0))) (blkOk_by (N := n_station_named) (sc := defScope (topS 41)) (by decide +kernel)) (fun _ _ _ _ _ => (sg_name (pg_name (i := 3) sc_station_named.nd rfl (by first | exact Or.inl rfl | exact Or.inr rfl)))) (fun _ _ _ _ _ => pts_one (PW.pt (sw_and (st_of (se_callB call_isi o_isi (by rfl) T.z_isinstance (by decide +kernel) (sa_cons (se_var 1 (pv 1)) (sa_cons (se_c (v := .ty "str") (pe_bltn (u := .type "str") (by rfl) T.z_str (by decide +kernel) rfl) fun _ _ _ => .ty "str") sa_nil)))) (sw_and1 (st_cmp (op_eqA hr.units) o_eq (se_ix ix_seq o_ix (se_var 3 (pv 3)) se_int (fun _ _ => rfl)) (se_var 1 (pv 1)) (nomark _)))))) (fun _ _ _ _ _ => (se_var 3 (pv 3))))
      (sb_one (ss_ret (se_if (st_cmp (op_ne0 hr.units) o_ne0 (se_var 2 (pv 2)) (se_lst sa_nil) (nomark _)) (se_ix ix_seq o_ix (se_var 2 (pv 2)) se_int (fun _ _ => rfl)) se_non))))
theorem G_l_of : FnG P w K mg base 2 T.f_l_of T.d_l_of ["_law_pot_here", "_law_some"] F_l_of :=
  fnG_mkX (k := 1) (.of T.u_l_of) sc_l_of fun cdv A outer s H E hr hgd tk =>
      (sb_one (ss_ret (se_ix ix_seq o_ix (se_var 1 (pv 1)) (se_call (fnG_gq (G_l_take T)) (hr.mono (by omega)) hgd tk (by rfl) T.g_l_take T.u_l_take.kp T.b_l_take (gq_arity fnM_arity) (sa_cons (se_var 0 (pv 0)) (sa_cons (se_callB call_lenAll o_len (by rfl) T.z_len (by decide +kernel) (sa_cons (se_var 1 (pv 1)) sa_nil)) sa_nil))) (fun _ _ => rfl))))
theorem G_are_cells : FnG P w K mg base 2 T.f_are_cells T.d_are_cells ["value", "size"] F_are_cells :=
  fnG_mkX (k := 1) (.of T.u_are_cells) sc_are_cells fun cdv A outer s H E hr hgd tk =>
      (sb_cons (ss_if (PW.pt (sw_or (st_not (st_of (se_callB call_isi o_isi (by rfl) T.z_isinstance (by decide +kernel) (sa_cons (se_var 0 (pv 0)) (sa_cons (se_c (v := .ty "tuple") (pe_bltn (u := .type "tuple") (by rfl) T.z_tuple (by decide +kernel) rfl) fun _ _ _ => .ty "tuple") sa_nil))))) (sw_or1 (st_cmp (op_gtA hr.units0) o_ord (se_callB call_lenAll o_len (by rfl) T.z_len (by decide +kernel) (sa_cons (se_var 0 (pv 0)) sa_nil)) (se_c (v := .int 3) (pe_glob (by rfl) T.c_MOST_PORTS ⟨_, rfl⟩) fun _ _ _ => .int 3) (nomark _))))) (sb_one (ss_ret se_bl)) sb_nil)
      (sb_cons (ss_if (st_not (st_of (se_callB (cr_all rfl) o_all (by rfl) T.z_all (by decide +kernel) (sa_cons (se_lc (own := [("part", 4)]) rfl sc_are_cells.nd (si_any (se_var 0 (pv 0))) (blkOk_by (N := n_are_cells) (sc := defScope (topS 38)) (by decide +kernel)) (fun _ _ _ _ _ => (sg_name (pg_name (i := 4) sc_are_cells.nd rfl (by first | exact Or.inl rfl | exact Or.inr rfl)))) (fun _ _ _ _ _ => pts0) (fun _ _ _ _ _ => (se_and (se_callB call_isi o_isi (by rfl) T.z_isinstance (by decide +kernel) (sa_cons (se_var 4 (pv 4)) (sa_cons (se_c (v := .ty "tuple") (pe_bltn (u := .type "tuple") (by rfl) T.z_tuple (by decide +kernel) rfl) fun _ _ _ => .ty "tuple") sa_nil))) (se_and (se_cmp (op_eqA hr.units) o_eq (se_callB call_lenAll o_len (by rfl) T.z_len (by decide +kernel) (sa_cons (se_var 4 (pv 4)) sa_nil)) (se_c (v := .int 2) (pe_glob (by rfl) T.c_PAIR ⟨_, rfl⟩) fun _ _ _ => .int 2) (nomark _)) (se_one (se_call (fnG_gq (G_is_name T)) (hr.mono (by omega)) hgd takes0 (by rfl) T.g_is_name T.u_is_name.kp T.b_is_name (gq_arity fnM_arity) (sa_cons (se_ix ix_seq o_ix (se_var 4 (pv 4)) se_int (fun _ _ => rfl)) sa_nil))))))) sa_nil)))) (sb_one (ss_ret se_bl)) sb_nil)
      (sb_one (ss_ret (se_callB (cr_all rfl) o_all (by rfl) T.z_all (by decide +kernel) (sa_cons (se_lc (own := [("name", 2), ("worth", 3)]) rfl sc_are_cells.nd (si_any (se_var 0 (pv 0))) (blkOk_by (N := n_are_cells) (sc := defScope (topS 38)) (by decide +kernel)) (fun _ _ _ _ _ => (sg_tup rfl (sgs_cons (sg_name (pg_name (i := 2) sc_are_cells.nd rfl (by first | exact Or.inl rfl | exact Or.inr rfl))) (sgs_cons (sg_name (pg_name (i := 3) sc_are_cells.nd rfl (by first | exact Or.inl rfl | exact Or.inr rfl))) sgs_nil gT0_noerr) (gTc_noerr gN_noerr gT0_noerr)) (by rfl) (gTc_len (gTc_len gT0_len)) (gTc_noerr gN_noerr (gTc_noerr gN_noerr gT0_noerr)))) (fun _ _ _ _ _ => pts0) (fun _ _ _ _ _ => (se_callD (dvs := []) (fnG_gq (G_is_number T)) (hr.mono (by omega)) hgd takes0 (by rfl) T.g_is_number T.u_is_number.kp T.b_is_number_1 (fun _ _ _ => .nil) (gq_arity fnM_arity) (sa_cons (se_var 3 (pv 3)) (sa_cons se_int (sa_cons (se_op op_sub o_sub (se_var 1 (pv 1)) se_int) sa_nil)))))) sa_nil))))))
theorem G_are_names : FnG P w K mg base 2 T.f_are_names T.d_are_names ["value", "most"] F_are_names :=
  fnG_mkX (k := 1) (.of T.u_are_names) sc_are_names fun cdv A outer s H E hr hgd tk =>
      (sb_one (ss_ret (se_and (se_callB call_isi o_isi (by rfl) T.z_isinstance (by decide +kernel) (sa_cons (se_var 0 (pv 0)) (sa_cons (se_c (v := .ty "tuple") (pe_bltn (u := .type "tuple") (by rfl) T.z_tuple (by decide +kernel) rfl) fun _ _ _ => .ty "tuple") sa_nil))) (se_and (se_cmp (op_leA hr.units0) o_ord (se_callB call_lenAll o_len (by rfl) T.z_len (by decide +kernel) (sa_cons (se_var 0 (pv 0)) sa_nil)) (se_var 1 (pv 1)) (nomark _)) (se_one (se_callB (cr_all rfl) o_all (by rfl) T.z_all (by decide +kernel) (sa_cons (se_lc (own := [("part", 2)]) rfl sc_are_names.nd (si_any (se_var 0 (pv 0))) (blkOk_by (N := n_are_names) (sc := defScope (topS 37)) (by decide +kernel)) (fun _ _ _ _ _ => (sg_name (pg_name (i := 2) sc_are_names.nd rfl (by first | exact Or.inl rfl | exact Or.inr rfl)))) (fun _ _ _ _ _ => pts0) (fun _ _ _ _ _ => (se_call (fnG_gq (G_is_name T)) (hr.mono (by omega)) hgd takes0 (by rfl) T.g_is_name T.u_is_name.kp T.b_is_name (gq_arity fnM_arity) (sa_cons (se_var 2 (pv 2)) sa_nil)))) sa_nil)))))))
theorem G_are_worths : FnG P w K mg base 2 T.f_are_worths T.d_are_worths ["value", "many", "size"] F_are_worths :=
  fnG_mkX (k := 1) (.of T.u_are_worths) sc_are_worths fun cdv A outer s H E hr hgd tk =>
      (sb_one (ss_ret (se_and (se_callB call_isi o_isi (by rfl) T.z_isinstance (by decide +kernel) (sa_cons (se_var 0 (pv 0)) (sa_cons (se_c (v := .ty "tuple") (pe_bltn (u := .type "tuple") (by rfl) T.z_tuple (by decide +kernel) rfl) fun _ _ _ => .ty "tuple") sa_nil))) (se_and (se_cmp (op_eqA hr.units) o_eq (se_callB call_lenAll o_len (by rfl) T.z_len (by decide +kernel) (sa_cons (se_var 0 (pv 0)) sa_nil)) (se_var 1 (pv 1)) (nomark _)) (se_one (se_callB (cr_all rfl) o_all (by rfl) T.z_all (by decide +kernel) (sa_cons (se_lc (own := [("part", 3)]) rfl sc_are_worths.nd (si_any (se_var 0 (pv 0))) (blkOk_by (N := n_are_worths) (sc := defScope (topS 52)) (by decide +kernel)) (fun _ _ _ _ _ => (sg_name (pg_name (i := 3) sc_are_worths.nd rfl (by first | exact Or.inl rfl | exact Or.inr rfl)))) (fun _ _ _ _ _ => pts0) (fun _ _ _ _ _ => (se_callD (dvs := []) (fnG_gq (G_is_number T)) (hr.mono (by omega)) hgd takes0 (by rfl) T.g_is_number T.u_is_number.kp T.b_is_number_1 (fun _ _ _ => .nil) (gq_arity fnM_arity) (sa_cons (se_var 3 (pv 3)) (sa_cons se_int (sa_cons (se_op op_sub o_sub (se_var 2 (pv 2)) se_int) sa_nil)))))) sa_nil)))))))
theorem G_is_first : FnG P w K mg base 2 T.f_is_first T.d_is_first ["value", "size", "stations", "ends"] F_is_first :=
  fnG_mkX (k := 1) (.of T.u_is_first) sc_is_first fun cdv A outer s H E hr hgd tk =>
      (sb_cons (ss_if (PW.pt (sw_or (st_not (st_of (se_callB call_isi o_isi (by rfl) T.z_isinstance (by decide +kernel) (sa_cons (se_var 0 (pv 0)) (sa_cons (se_c (v := .ty "tuple") (pe_bltn (u := .type "tuple") (by rfl) T.z_tuple (by decide +kernel) rfl) fun _ _ _ => .ty "tuple") sa_nil))))) (sw_or (st_cmp (op_neA hr.units) o_ne (se_callB call_lenAll o_len (by rfl) T.z_len (by decide +kernel) (sa_cons (se_var 0 (pv 0)) sa_nil)) (se_c (v := .int 4) (pe_glob (by rfl) T.c_FIRST_PARTS ⟨_, rfl⟩) fun _ _ _ => .int 4) (nomark _)) (sw_or1 (st_not (st_of (se_callD (dvs := [.non]) (fnG_gq (G_is_number T)) (hr.mono (by omega)) hgd tk (by rfl) T.g_is_number T.u_is_number.kp T.b_is_number_0 (fun _ _ _ => (.cons (.non) .nil)) (gq_arity fnM_arity) (sa_cons (se_ix ix_seq o_ix (se_var 0 (pv 0)) se_int (fun _ _ => rfl)) (sa_cons se_int sa_nil))))))))) (sb_one (ss_ret se_bl)) sb_nil)
      (sb_cons (ss_as (se_var 0 (pv 0)) (sg_tup rfl (sgs_cons (sg_name (pg_name (i := 4) sc_is_first.nd rfl (by first | exact Or.inl rfl | exact Or.inr rfl))) (sgs_cons (sg_name (pg_name (i := 5) sc_is_first.nd rfl (by first | exact Or.inl rfl | exact Or.inr rfl))) (sgs_cons (sg_name (pg_name (i := 6) sc_is_first.nd rfl (by first | exact Or.inl rfl | exact Or.inr rfl))) (sgs_cons (sg_name (pg_name (i := 7) sc_is_first.nd rfl (by first | exact Or.inl rfl | exact Or.inr rfl))) sgs_nil gT0_noerr) (gTc_noerr gN_noerr gT0_noerr)) (gTc_noerr gN_noerr (gTc_noerr gN_noerr gT0_noerr))) (gTc_noerr gN_noerr (gTc_noerr gN_noerr (gTc_noerr gN_noerr gT0_noerr)))) (by rfl) (gTc_len (gTc_len (gTc_len (gTc_len gT0_len)))) (gTc_noerr gN_noerr (gTc_noerr gN_noerr (gTc_noerr gN_noerr (gTc_noerr gN_noerr gT0_noerr))))))
      (sb_cons (ss_set (i := 8) sc_is_first.nd rfl (by first | exact Or.inl rfl | exact Or.inr rfl) (se_call (fnG_gq (G_station_named T)) (hr.mono (by omega)) hgd tk (by rfl) T.g_station_named T.u_station_named.kp T.b_station_named (gq_arity fnM_arity) (sa_cons (se_var 2 (pv 2)) (sa_cons (se_var 5 (pv 5)) sa_nil))))
      (sb_cons (ss_if (PW.pt (sw_or (st_cmp op_isN o_isN (se_var 8 (pv 8)) se_non (nomark _)) (sw_or1 (st_not (st_of (se_callB call_isi o_isi (by rfl) T.z_isinstance (by decide +kernel) (sa_cons (se_var 6 (pv 6)) (sa_cons (se_c (v := .ty "str") (pe_bltn (u := .type "str") (by rfl) T.z_str (by decide +kernel) rfl) fun _ _ _ => .ty "str") sa_nil)))))))) (sb_one (ss_ret se_bl)) sb_nil)
      (sb_cons (ss_if (st_cmp (op_inA (units65 hr)) o_in (se_var 6 (pv 6)) (se_ix ix_seq o_ix (se_var 8 (pv 8)) se_int (fun _ _ => rfl)) (by with_unfolding_all rfl)) (sb_one (ss_ret (se_callD (dvs := []) (fnG_gq (G_is_number T)) (hr.mono (by omega)) hgd tk (by rfl) T.g_is_number T.u_is_number.kp T.b_is_number_1 (fun _ _ _ => .nil) (gq_arity fnM_arity) (sa_cons (se_var 7 (pv 7)) (sa_cons se_int (sa_cons se_int sa_nil)))))) sb_nil)
      (sb_one (ss_ret (se_and (se_cmp (op_inA (units65 hr)) o_in (se_var 6 (pv 6)) (se_ix ix_seq o_ix (se_var 8 (pv 8)) se_int (fun _ _ => rfl)) (by with_unfolding_all rfl)) (se_and (se_cmp (op_notInA (units65 hr)) o_notIn (se_tup (sa_cons (se_var 5 (pv 5)) (sa_cons (se_var 6 (pv 6)) sa_nil))) (se_var 3 (pv 3)) (by with_unfolding_all rfl)) (se_one (se_callD (dvs := []) (fnG_gq (G_is_number T)) (hr.mono (by omega)) hgd tk (by rfl) T.g_is_number T.u_is_number.kp T.b_is_number_1 (fun _ _ _ => .nil) (gq_arity fnM_arity) (sa_cons (se_var 7 (pv 7)) (sa_cons se_int (sa_cons (se_op op_sub o_sub (se_var 1 (pv 1)) se_int) sa_nil))))))))))))))
theorem G_is_line : FnG P w K mg base 2 T.f_is_line T.d_is_line ["value", "stations"] F_is_line :=
  fnG_mkX (k := 1) (.of T.u_is_line) sc_is_line fun cdv A outer s H E hr hgd tk =>
      (sb_cons (ss_if (PW.pt (sw_or (st_not (st_of (se_callB call_isi o_isi (by rfl) T.z_isinstance (by decide +kernel) (sa_cons (se_var 0 (pv 0)) (sa_cons (se_c (v := .ty "tuple") (pe_bltn (u := .type "tuple") (by rfl) T.z_tuple (by decide +kernel) rfl) fun _ _ _ => .ty "tuple") sa_nil))))) (sw_or (st_cmp (op_neA hr.units) o_ne (se_callB call_lenAll o_len (by rfl) T.z_len (by decide +kernel) (sa_cons (se_var 0 (pv 0)) sa_nil)) (se_c (v := .int 5) (pe_glob (by rfl) T.c_LINE_PARTS ⟨_, rfl⟩) fun _ _ _ => .int 5) (nomark _)) (sw_or1 (st_not (st_of (se_callD (dvs := []) (fnG_gq (G_is_number T)) (hr.mono (by omega)) hgd tk (by rfl) T.g_is_number T.u_is_number.kp T.b_is_number_1 (fun _ _ _ => .nil) (gq_arity fnM_arity) (sa_cons (se_ix ix_seq o_ix (se_var 0 (pv 0)) se_int (fun _ _ => rfl)) (sa_cons se_int (sa_cons (se_c (v := .int 20) (pe_glob (by rfl) T.c_MOST_DELAY ⟨_, rfl⟩) fun _ _ _ => .int 20) sa_nil)))))))))) (sb_one (ss_ret se_bl)) sb_nil)
      (sb_cons (ss_par (i := 2) (j := 3) rfl sc_is_line.nd rfl rfl (by decide) rfl rfl (sa_cons (se_call (fnG_gq (G_station_named T)) (hr.mono (by omega)) hgd tk (by rfl) T.g_station_named T.u_station_named.kp T.b_station_named (gq_arity fnM_arity) (sa_cons (se_var 1 (pv 1)) (sa_cons (se_ix ix_seq o_ix (se_var 0 (pv 0)) se_int (fun _ _ => rfl)) sa_nil))) (sa_cons (se_call (fnG_gq (G_station_named T)) (hr.mono (by omega)) hgd tk (by rfl) T.g_station_named T.u_station_named.kp T.b_station_named (gq_arity fnM_arity) (sa_cons (se_var 1 (pv 1)) (sa_cons (se_ix ix_seq o_ix (se_var 0 (pv 0)) se_int (fun _ _ => rfl)) sa_nil))) sa_nil)) (by rfl))
      (sb_cons (ss_if (PW.pt (sw_or (st_cmp op_isN o_isN (se_var 2 (pv 2)) se_non (nomark _)) (sw_or (st_cmp op_isN o_isN (se_var 3 (pv 3)) se_non (nomark _)) (sw_or (st_not (st_of (se_callB call_isi o_isi (by rfl) T.z_isinstance (by decide +kernel) (sa_cons (se_ix ix_seq o_ix (se_var 0 (pv 0)) se_int (fun _ _ => rfl)) (sa_cons (se_c (v := .ty "str") (pe_bltn (u := .type "str") (by rfl) T.z_str (by decide +kernel) rfl) fun _ _ _ => .ty "str") sa_nil))))) (sw_or1 (st_not (st_of (se_callB call_isi o_isi (by rfl) T.z_isinstance (by decide +kernel) (sa_cons (se_ix ix_seq o_ix (se_var 0 (pv 0)) se_int (fun _ _ => rfl)) (sa_cons (se_c (v := .ty "str") (pe_bltn (u := .type "str") (by rfl) T.z_str (by decide +kernel) rfl) fun _ _ _ => .ty "str") sa_nil)))))))))) (sb_one (ss_ret se_bl)) sb_nil)
      (sb_one (ss_ret (se_and (se_cmp (op_inA (units65 hr)) o_in (se_ix ix_seq o_ix (se_var 0 (pv 0)) se_int (fun _ _ => rfl)) (se_ix ix_seq o_ix (se_var 2 (pv 2)) se_int (fun _ _ => rfl)) (by with_unfolding_all rfl)) (se_one (se_cmp (op_inA (units65 hr)) o_in (se_ix ix_seq o_ix (se_var 0 (pv 0)) se_int (fun _ _ => rfl)) (se_ix ix_seq o_ix (se_var 3 (pv 3)) se_int (fun _ _ => rfl)) (by with_unfolding_all rfl)))))))))
theorem G_are_firsts : FnG P w K mg base 3 T.f_are_firsts T.d_are_firsts ["value", "size", "stations", "lines"] F_are_firsts :=
  fnG_mkX (k := 2) (.of T.u_are_firsts) sc_are_firsts fun cdv A outer s H E hr hgd tk =>
      (sb_cons (ss_set (i := 4) sc_are_firsts.nd rfl (by first | exact Or.inl rfl | exact Or.inr rfl) (se_lc (own := [("line", 6)]) rfl sc_are_firsts.nd (si_any (se_var 3 (pv 3))) (blkOk_by (N := n_are_firsts) (sc := defScope (topS 45)) (by decide +kernel)) (fun _ _ _ _ _ => (sg_name (pg_name (i := 6) sc_are_firsts.nd rfl (by first | exact Or.inl rfl | exact Or.inr rfl)))) (fun _ _ _ _ _ => pts0) (fun _ _ _ _ _ => (se_slice (se_var 6 (pv 6)) (sp_some se_int) (sp_some se_int)))))
      (sb_cons (ss_if (PW.pt (sw_or (st_not (st_of (se_callB call_isi o_isi (by rfl) T.z_isinstance (by decide +kernel) (sa_cons (se_var 0 (pv 0)) (sa_cons (se_c (v := .ty "tuple") (pe_bltn (u := .type "tuple") (by rfl) T.z_tuple (by decide +kernel) rfl) fun _ _ _ => .ty "tuple") sa_nil))))) (sw_or1 (st_not (st_of (se_callB (cr_all rfl) o_all (by rfl) T.z_all (by decide +kernel) (sa_cons (se_lc (own := [("part", 12)]) rfl sc_are_firsts.nd (si_any (se_var 0 (pv 0))) (blkOk_by (N := n_are_firsts) (sc := defScope (topS 45)) (by decide +kernel)) (fun _ _ _ _ _ => (sg_name (pg_name (i := 12) sc_are_firsts.nd rfl (by first | exact Or.inl rfl | exact Or.inr rfl)))) (fun _ _ _ _ _ => pts0) (fun _ _ _ _ _ => (se_call (fnG_gq (G_is_first T)) (hr.mono (by omega)) hgd takes0 (by rfl) T.g_is_first T.u_is_first.kp T.b_is_first (gq_arity fnM_arity) (sa_cons (se_var 12 (pv 12)) (sa_cons (se_var 1 (pv 1)) (sa_cons (se_var 2 (pv 2)) (sa_cons (se_var 4 (pv 4)) sa_nil))))))) sa_nil))))))) (sb_one (ss_ret se_bl)) sb_nil)
      (sb_cons (ss_setLc (i := 5) (own := [("time", 7), ("name", 8), ("port", 9), ("worth", 10)]) rfl sc_are_firsts.nd rfl rfl (sw_true rfl rfl rfl (by decide +kernel)) (si_any (se_var 0 (pv 0))) (blkOk_by (N := n_are_firsts) (sc := defScope (topS 45)) (by decide +kernel)) (fun _ _ _ _ _ => (sg_tup rfl (sgs_cons (sg_name (pg_name (i := 7) sc_are_firsts.nd rfl (by first | exact Or.inl rfl | exact Or.inr rfl))) (sgs_cons (sg_name (pg_name (i := 8) sc_are_firsts.nd rfl (by first | exact Or.inl rfl | exact Or.inr rfl))) (sgs_cons (sg_name (pg_name (i := 9) sc_are_firsts.nd rfl (by first | exact Or.inl rfl | exact Or.inr rfl))) (sgs_cons (sg_name (pg_name (i := 10) sc_are_firsts.nd rfl (by first | exact Or.inl rfl | exact Or.inr rfl))) sgs_nil gT0_noerr) (gTc_noerr gN_noerr gT0_noerr)) (gTc_noerr gN_noerr (gTc_noerr gN_noerr gT0_noerr))) (gTc_noerr gN_noerr (gTc_noerr gN_noerr (gTc_noerr gN_noerr gT0_noerr)))) (by rfl) (gTc_len (gTc_len (gTc_len (gTc_len gT0_len)))) (gTc_noerr gN_noerr (gTc_noerr gN_noerr (gTc_noerr gN_noerr (gTc_noerr gN_noerr gT0_noerr)))))) (fun _ _ _ _ _ => pts_one (st_cmp (op_inA (units65 hr)) o_in (se_var 9 (pv 9)) (se_ix ix_seq o_ix (se_call (fnG_gq (G_station_named T)) (hr.mono (by omega)) hgd takes0 (by rfl) T.g_station_named T.u_station_named.kp T.b_station_named (gq_arity fnM_arity) (sa_cons (se_var 2 (pv 2)) (sa_cons (se_var 8 (pv 8)) sa_nil))) se_int (fun _ _ => rfl)) (by with_unfolding_all rfl))) (fun _ _ _ _ _ => (se_tupT (sa_cons (se_var 8 (pv 8)) (sa_cons (se_var 9 (pv 9)) sa_nil)))))
      (sb_one (ss_ret (se_cmp (op_eqA hr.units) o_eq (se_callB call_lenAll o_len (by rfl) T.z_len (by decide +kernel) (sa_cons (se_dc (tk := true) (own := [("bell", 11)]) (units1 hr) rfl sc_are_firsts.nd (si_any (se_var 5 (pv 5))) (blkOk_by (N := n_are_firsts) (sc := defScope (topS 45)) (by decide +kernel)) (fun _ _ _ _ _ => (sg_name (pg_name (i := 11) sc_are_firsts.nd rfl (by first | exact Or.inl rfl | exact Or.inr rfl)))) (fun _ _ _ _ _ => pts0) (fun _ _ _ _ _ => (se_var 11 (pv 11))) (fun _ _ _ _ _ => se_bl)) sa_nil)) (se_callB call_lenAll o_len (by rfl) T.z_len (by decide +kernel) (sa_cons (se_var 5 (pv 5)) sa_nil)) (nomark _)))))))
theorem G_are_lines_of : FnG P w K mg base 3 T.f_are_lines_of T.d_are_lines_of ["value", "stations"] F_are_lines_of :=
  fnG_mkX (k := 2) (.of T.u_are_lines_of) sc_are_lines_of fun cdv A outer s H E hr hgd tk =>
      (sb_cons (ss_if (PW.pt (sw_or (st_not (st_of (se_callB call_isi o_isi (by rfl) T.z_isinstance (by decide +kernel) (sa_cons (se_var 0 (pv 0)) (sa_cons (se_c (v := .ty "tuple") (pe_bltn (u := .type "tuple") (by rfl) T.z_tuple (by decide +kernel) rfl) fun _ _ _ => .ty "tuple") sa_nil))))) (sw_or1 (st_not (st_of (se_callB (cr_all rfl) o_all (by rfl) T.z_all (by decide +kernel) (sa_cons (se_lc (own := [("part", 4)]) rfl sc_are_lines_of.nd (si_any (se_var 0 (pv 0))) (blkOk_by (N := n_are_lines_of) (sc := defScope (topS 43)) (by decide +kernel)) (fun _ _ _ _ _ => (sg_name (pg_name (i := 4) sc_are_lines_of.nd rfl (by first | exact Or.inl rfl | exact Or.inr rfl)))) (fun _ _ _ _ _ => pts0) (fun _ _ _ _ _ => (se_call (fnG_gq (G_is_line T)) (hr.mono (by omega)) hgd takes0 (by rfl) T.g_is_line T.u_is_line.kp T.b_is_line (gq_arity fnM_arity) (sa_cons (se_var 4 (pv 4)) (sa_cons (se_var 1 (pv 1)) sa_nil))))) sa_nil))))))) (sb_one (ss_ret se_bl)) sb_nil)
      (sb_cons (ss_par (i := 2) (j := 3) rfl sc_are_lines_of.nd rfl rfl (by decide) rfl rfl (sa_cons (se_dc (tk := true) (own := [("part", 4)]) (units1 hr) rfl sc_are_lines_of.nd (si_any (se_var 0 (pv 0))) (blkOk_by (N := n_are_lines_of) (sc := defScope (topS 43)) (by decide +kernel)) (fun _ _ _ _ _ => (sg_name (pg_name (i := 4) sc_are_lines_of.nd rfl (by first | exact Or.inl rfl | exact Or.inr rfl)))) (fun _ _ _ _ _ => pts0) (fun _ _ _ _ _ => (se_sliceT (se_var 4 (pv 4)) sp_none (sp_some se_int))) (fun _ _ _ _ _ => se_bl)) (sa_cons (se_dc (tk := true) (own := [("part", 4)]) (units1 hr) rfl sc_are_lines_of.nd (si_any (se_var 0 (pv 0))) (blkOk_by (N := n_are_lines_of) (sc := defScope (topS 43)) (by decide +kernel)) (fun _ _ _ _ _ => (sg_name (pg_name (i := 4) sc_are_lines_of.nd rfl (by first | exact Or.inl rfl | exact Or.inr rfl)))) (fun _ _ _ _ _ => pts0) (fun _ _ _ _ _ => (se_sliceT (se_var 4 (pv 4)) (sp_some se_int) (sp_some se_int))) (fun _ _ _ _ _ => se_bl)) sa_nil)) (by rfl))
      (sb_one (ss_ret (se_and (se_cmp (op_eqA hr.units) o_eq (se_callB call_lenAll o_len (by rfl) T.z_len (by decide +kernel) (sa_cons (se_var 2 (pv 2)) sa_nil)) (se_callB call_lenAll o_len (by rfl) T.z_len (by decide +kernel) (sa_cons (se_var 0 (pv 0)) sa_nil)) (nomark _)) (se_one (se_cmp (op_eqA hr.units) o_eq (se_callB call_lenAll o_len (by rfl) T.z_len (by decide +kernel) (sa_cons (se_var 3 (pv 3)) sa_nil)) (se_callB call_lenAll o_len (by rfl) T.z_len (by decide +kernel) (sa_cons (se_var 0 (pv 0)) sa_nil)) (nomark _))))))))
theorem S_Run_reckoned : ∀ n : Nat, FnG P w K mg base (0 + n) T.f_Run_reckoned T.d_Run_reckoned ["self", "e"] (F_Run_reckoned n)
  | 0 => by
    (simp only [F_Run_reckoned]; exact fnG_no)
  | n + 1 => by
    have ih := S_Run_reckoned n
    rw [F_Run_reckoned]
    exact fnG_mkX (k := 0 + n) (.of T.u_Run_reckoned) sc_Run_reckoned fun cdv A outer s H E hr hgd tk =>
      (sb_cons (ss_if (st_of (se_callB call_isi o_isi (by rfl) T.z_isinstance (by decide +kernel) (sa_cons (se_var 1 (pv 1)) (sa_cons (se_c (v := .ty "int") (pe_bltn (u := .type "int") (by rfl) T.z_int (by decide +kernel) rfl) fun _ _ _ => .ty "int") sa_nil)))) (sb_one (ss_ret (se_var 1 (pv 1)))) sb_nil)
      (sb_cons (ss_if (st_of (se_callB call_isi o_isi (by rfl) T.z_isinstance (by decide +kernel) (sa_cons (se_var 1 (pv 1)) (sa_cons (se_c (v := .ty "str") (pe_bltn (u := .type "str") (by rfl) T.z_str (by decide +kernel) rfl) fun _ _ _ => .ty "str") sa_nil)))) (sb_one (ss_ret (se_if (st_cmp (op_eqA hr.units) o_eq (se_var 1 (pv 1)) (se_c (v := .str (PySem.Str.ofString "it")) (pe_glob (by rfl) T.c_IT ⟨_, rfl⟩) fun _ _ _ => .str _) (nomark _)) (se_fld (cs := ["Run"]) (atC T.at_Run_letter_worth atN) (se_var 0 (pv 0))) (se_ix (ix_all (units1 hr)) o_ixA (se_fld (cs := ["Run"]) (atC T.at_Run_cell_book atN) (se_var 0 (pv 0))) (se_var 1 (pv 1)) (fun _ _ => rfl))))) sb_nil)
      (sb_cons (ss_par3 (i := 2) (j := 3) (l := 4) rfl sc_Run_reckoned.nd rfl rfl rfl (by decide) (by decide) (by decide) rfl rfl rfl (sa_cons (se_ix ix_seq o_ix (se_var 1 (pv 1)) se_int (fun _ _ => rfl)) (sa_cons (se_meth (cn := "Run") (fnG_gq ih) (hr.mono (by omega)) hgd tk T.mi_Run_reckoned T.b_Run_reckoned (gq_arity (A_Run_reckoned n)) (se_var 0 (pv 0)) (sa_cons (se_ix ix_seq o_ix (se_var 1 (pv 1)) se_int (fun _ _ => rfl)) sa_nil)) (sa_cons (se_meth (cn := "Run") (fnG_gq ih) (hr.mono (by omega)) hgd tk T.mi_Run_reckoned T.b_Run_reckoned (gq_arity (A_Run_reckoned n)) (se_var 0 (pv 0)) (sa_cons (se_ix ix_seq o_ix (se_var 1 (pv 1)) se_int (fun _ _ => rfl)) sa_nil)) sa_nil))) (by rfl))
      (sb_cons (ss_set (i := 5) sc_Run_reckoned.nd rfl (by first | exact Or.inl rfl | exact Or.inr rfl) (se_if (st_cmp (op_eqA hr.units) o_eq (se_var 2 (pv 2)) se_str (nomark _)) (se_op op_addAll o_add (se_var 3 (pv 3)) (se_var 4 (pv 4))) (se_if (st_cmp (op_eqA hr.units) o_eq (se_var 2 (pv 2)) se_str (nomark _)) (se_op op_sub o_sub (se_var 3 (pv 3)) (se_var 4 (pv 4))) (se_op op_mulB o_mulB (se_var 3 (pv 3)) (se_var 4 (pv 4))))))
      (sb_one (ss_ret (se_op op_modN o_mod (se_var 5 (pv 5)) (se_fld (cs := ["Run"]) (atC T.at_Run_run_size atN) (se_var 0 (pv 0))))))))))
theorem G_Run_reckoned (n : Nat) : FnG P w K mg base (0 + n) T.f_Run_reckoned T.d_Run_reckoned ["self", "e"] (F_Run_reckoned n) := (S_Run_reckoned T n)
theorem S_l_plain : ∀ n : Nat, FnG P w K mg base (0 + n) T.f_l_plain T.d_l_plain ["_law_e", "_law_held"] (F_l_plain n)
  | 0 => by
    (simp only [F_l_plain]; exact fnG_no)
  | n + 1 => by
    have ih := S_l_plain n
    rw [F_l_plain]
    exact fnG_mkX (k := 0 + n) (.of T.u_l_plain) sc_l_plain fun cdv A outer s H E hr hgd tk =>
      (sb_cons (ss_if (st_of (se_callB call_isi o_isi (by rfl) T.z_isinstance (by decide +kernel) (sa_cons (se_var 0 (pv 0)) (sa_cons (se_c (v := .ty "tuple") (pe_bltn (u := .type "tuple") (by rfl) T.z_tuple (by decide +kernel) rfl) fun _ _ _ => .ty "tuple") sa_nil)))) (sb_cons (ss_par (i := 2) (j := 3) rfl sc_l_plain.nd rfl rfl (by decide) rfl rfl (sa_cons (se_call (fnG_gq ih) (hr.mono (by omega)) hgd tk (by rfl) T.g_l_plain T.u_l_plain.kp T.b_l_plain (gq_arity (A_l_plain n)) (sa_cons (se_ix ix_seq o_ix (se_var 0 (pv 0)) se_int (fun _ _ => rfl)) (sa_cons (se_var 1 (pv 1)) sa_nil))) (sa_cons (se_call (fnG_gq ih) (hr.mono (by omega)) hgd tk (by rfl) T.g_l_plain T.u_l_plain.kp T.b_l_plain (gq_arity (A_l_plain n)) (sa_cons (se_ix ix_seq o_ix (se_var 0 (pv 0)) se_int (fun _ _ => rfl)) (sa_cons (se_var 1 (pv 1)) sa_nil))) sa_nil)) (by rfl))
      (sb_one (ss_ret (se_ix (ix_all (units1 hr)) o_ixA (se_disp (l := ((mC (.str (PySem.Str.ofString "+"))), (m2 addD (mVar 2) (mVar 3))) :: ((mC (.str (PySem.Str.ofString "-"))), (m2 subD (mVar 2) (mVar 3))) :: ((mC (.str (PySem.Str.ofString "*"))), (m2 mulB (mVar 2) (mVar 3))) :: []) (pps_cons se_str (se_op op_addAll o_add (se_var 2 (pv 2)) (se_var 3 (pv 3))) (pps_cons se_str (se_op op_sub o_sub (se_var 2 (pv 2)) (se_var 3 (pv 3))) (pps_cons se_str (se_op op_mulB o_mulB (se_var 2 (pv 2)) (se_var 3 (pv 3))) pps_nil)))) (se_ix ix_seq o_ix (se_var 0 (pv 0)) se_int (fun _ _ => rfl)) (fun _ _ => rfl))))) sb_nil)
      (sb_one (ss_ret (se_if (st_of (se_callB call_isi o_isi (by rfl) T.z_isinstance (by decide +kernel) (sa_cons (se_var 0 (pv 0)) (sa_cons (se_c (v := .ty "str") (pe_bltn (u := .type "str") (by rfl) T.z_str (by decide +kernel) rfl) fun _ _ _ => .ty "str") sa_nil)))) (se_ix (ix_all (units1 hr)) o_ixA (se_var 1 (pv 1)) (se_var 0 (pv 0)) (fun _ _ => rfl)) (se_var 0 (pv 0))))))
theorem G_l_plain (n : Nat) : FnG P w K mg base (0 + n) T.f_l_plain T.d_l_plain ["_law_e", "_law_held"] (F_l_plain n) := (S_l_plain T n)
theorem G_Run_is_so : FnG P w K mg base 13 T.f_Run_is_so T.d_Run_is_so ["self", "condition"] F_Run_is_so :=
  fnG_mkX (k := 12) (.of T.u_Run_is_so) sc_Run_is_so fun cdv A outer s H E hr hgd tk =>
      (sb_cons (ss_as (se_var 1 (pv 1)) (sg_tup rfl (sgs_cons (sg_name (pg_name (i := 2) sc_Run_is_so.nd rfl (by first | exact Or.inl rfl | exact Or.inr rfl))) (sgs_cons (sg_name (pg_name (i := 3) sc_Run_is_so.nd rfl (by first | exact Or.inl rfl | exact Or.inr rfl))) (sgs_cons (sg_name (pg_name (i := 4) sc_Run_is_so.nd rfl (by first | exact Or.inl rfl | exact Or.inr rfl))) sgs_nil gT0_noerr) (gTc_noerr gN_noerr gT0_noerr)) (gTc_noerr gN_noerr (gTc_noerr gN_noerr gT0_noerr))) (by rfl) (gTc_len (gTc_len (gTc_len gT0_len))) (gTc_noerr gN_noerr (gTc_noerr gN_noerr (gTc_noerr gN_noerr gT0_noerr)))))
      (sb_cons (ss_par (i := 5) (j := 6) rfl sc_Run_is_so.nd rfl rfl (by decide) rfl rfl (sa_cons (se_meth (cn := "Run") (fnG_gq (G_Run_reckoned T 12)) (hr.mono (by omega)) hgd tk T.mi_Run_reckoned T.b_Run_reckoned (gq_arity (A_Run_reckoned 12)) (se_var 0 (pv 0)) (sa_cons (se_var 3 (pv 3)) sa_nil)) (sa_cons (se_meth (cn := "Run") (fnG_gq (G_Run_reckoned T 12)) (hr.mono (by omega)) hgd tk T.mi_Run_reckoned T.b_Run_reckoned (gq_arity (A_Run_reckoned 12)) (se_var 0 (pv 0)) (sa_cons (se_var 4 (pv 4)) sa_nil)) sa_nil)) (by rfl))
      (sb_one (ss_ret (se_if (st_cmp (op_eqA hr.units) o_eq (se_var 2 (pv 2)) se_str (nomark _)) (se_cmp (op_eqA hr.units) o_eq (se_var 5 (pv 5)) (se_var 6 (pv 6)) (nomark _)) (se_cmp (op_ltA hr.units0) o_ord (se_var 5 (pv 5)) (se_var 6 (pv 6)) (nomark _)))))))
theorem S_is_expression : ∀ n : Nat, FnG P w K mg base (1 + n) T.f_is_expression T.d_is_expression ["value", "cells", "size", "within"] (F_is_expression n)
  | 0 => by
    (simp only [F_is_expression]; exact fnG_no)
  | n + 1 => by
    have ih := S_is_expression n
    rw [F_is_expression]
    exact fnG_mkX (k := 1 + n) (.ofD T.u_is_expression) sc_is_expression fun cdv A outer s H E hr hgd tk =>
      (sb_cons (ss_if (st_of (se_callB call_isi o_isi (by rfl) T.z_isinstance (by decide +kernel) (sa_cons (se_var 0 (pv 0)) (sa_cons (se_c (v := .ty "str") (pe_bltn (u := .type "str") (by rfl) T.z_str (by decide +kernel) rfl) fun _ _ _ => .ty "str") sa_nil)))) (sb_one (ss_ret (se_or (se_cmp (op_eqA hr.units) o_eq (se_var 0 (pv 0)) (se_c (v := .str (PySem.Str.ofString "it")) (pe_glob (by rfl) T.c_IT ⟨_, rfl⟩) fun _ _ _ => .str _) (nomark _)) (se_one (se_cmp (op_inA (units65 hr)) o_in (se_var 0 (pv 0)) (se_var 1 (pv 1)) (by with_unfolding_all rfl)))))) sb_nil)
      (sb_cons (ss_if (st_not (st_of (se_callB call_isi o_isi (by rfl) T.z_isinstance (by decide +kernel) (sa_cons (se_var 0 (pv 0)) (sa_cons (se_c (v := .ty "tuple") (pe_bltn (u := .type "tuple") (by rfl) T.z_tuple (by decide +kernel) rfl) fun _ _ _ => .ty "tuple") sa_nil))))) (sb_one (ss_ret (se_callD (dvs := []) (fnG_gq (G_is_number T)) (hr.mono (by omega)) hgd tk (by rfl) T.g_is_number T.u_is_number.kp T.b_is_number_1 (fun _ _ _ => .nil) (gq_arity fnM_arity) (sa_cons (se_var 0 (pv 0)) (sa_cons se_int (sa_cons (se_op op_sub o_sub (se_var 2 (pv 2)) se_int) sa_nil)))))) sb_nil)
      (sb_cons (ss_if (PW.pt (sw_or (st_cmp (op_eqA hr.units) o_eq (se_var 3 (pv 3)) se_int (nomark _)) (sw_or (st_cmp (op_neA hr.units) o_ne (se_callB call_lenAll o_len (by rfl) T.z_len (by decide +kernel) (sa_cons (se_var 0 (pv 0)) sa_nil)) (se_c (v := .int 3) (pe_glob (by rfl) T.c_TRIPLE ⟨_, rfl⟩) fun _ _ _ => .int 3) (nomark _)) (sw_or (st_not (st_of (se_callB call_isi o_isi (by rfl) T.z_isinstance (by decide +kernel) (sa_cons (se_ix ix_seq o_ix (se_var 0 (pv 0)) se_int (fun _ _ => rfl)) (sa_cons (se_c (v := .ty "str") (pe_bltn (u := .type "str") (by rfl) T.z_str (by decide +kernel) rfl) fun _ _ _ => .ty "str") sa_nil))))) (sw_or1 (st_cmp (op_notInA (units65 hr)) o_notIn (se_ix ix_seq o_ix (se_var 0 (pv 0)) se_int (fun _ _ => rfl)) (se_ktp (by rfl) T.c_SIGNS T.q_SIGNS fun _ _ _ => (.cons (.str _) (.cons (.str _) (.cons (.str _) .nil)))) (by with_unfolding_all rfl))))))) (sb_one (ss_ret se_bl)) sb_nil)
      (sb_one (ss_ret (se_callB (cr_all rfl) o_all (by rfl) T.z_all (by decide +kernel) (sa_cons (se_lc (own := [("part", 4)]) rfl sc_is_expression.nd (si_any (se_slice (se_var 0 (pv 0)) (sp_some se_int) sp_none)) (blkOk_by (N := n_is_expression) (sc := defScope (topS 21)) (by decide +kernel)) (fun _ _ _ _ _ => (sg_name (pg_name (i := 4) sc_is_expression.nd rfl (by first | exact Or.inl rfl | exact Or.inr rfl)))) (fun _ _ _ _ _ => pts0) (fun _ _ _ _ _ => (se_callD (dvs := []) (fnG_gq ih) (hr.mono (by omega)) hgd takes0 (by rfl) T.g_is_expression T.u_is_expression.kp T.b_is_expression_1 (fun _ _ _ => .nil) (gq_arity (A_is_expression n)) (sa_cons (se_var 4 (pv 4)) (sa_cons (se_var 1 (pv 1)) (sa_cons (se_var 2 (pv 2)) (sa_cons (se_op op_sub o_sub (se_var 3 (pv 3)) se_int) sa_nil))))))) sa_nil)))))))
theorem G_is_expression (n : Nat) : FnG P w K mg base (1 + n) T.f_is_expression T.d_is_expression ["value", "cells", "size", "within"] (F_is_expression n) := (S_is_expression T n)
theorem S_l_sum : ∀ n : Nat, FnG P w K mg base (2 + n) T.f_l_sum T.d_l_sum ["_law_pot_here", "_law_names", "_law_size", "_law_deep"] (F_l_sum n)
  | 0 => by
    (simp only [F_l_sum]; exact fnG_no)
  | n + 1 => by
    have ih := S_l_sum n
    rw [F_l_sum]
    exact fnG_mkX (k := 2 + n) (.of T.u_l_sum) sc_l_sum fun cdv A outer s H E hr hgd tk =>
      (sb_cons (ss_if (PW.pt (sw_or (st_cmp (op_eqA hr.units) o_eq (se_var 3 (pv 3)) se_int (nomark _)) (sw_or1 (st_cmp (op_eqA hr.units) o_eq (se_call (fnG_gq (G_l_take T)) (hr.mono (by omega)) hgd tk (by rfl) T.g_l_take T.u_l_take.kp T.b_l_take (gq_arity fnM_arity) (sa_cons (se_var 0 (pv 0)) (sa_cons se_int sa_nil))) se_int (nomark _))))) (sb_one (ss_ret (se_if (st_cmp (op_gtA hr.units0) o_ord (se_call (fnG_gq (G_l_take T)) (hr.mono (by omega)) hgd tk (by rfl) T.g_l_take T.u_l_take.kp T.b_l_take (gq_arity fnM_arity) (sa_cons (se_var 0 (pv 0)) (sa_cons se_int sa_nil))) se_int (nomark _)) (se_call (fnG_gq (G_l_of T)) (hr.mono (by omega)) hgd tk (by rfl) T.g_l_of T.u_l_of.kp T.b_l_of (gq_arity fnM_arity) (sa_cons (se_var 0 (pv 0)) (sa_cons (se_var 1 (pv 1)) sa_nil))) (se_call (fnG_gq (G_l_take T)) (hr.mono (by omega)) hgd tk (by rfl) T.g_l_take T.u_l_take.kp T.b_l_take (gq_arity fnM_arity) (sa_cons (se_var 0 (pv 0)) (sa_cons (se_var 2 (pv 2)) sa_nil)))))) sb_nil)
      (sb_cons (ss_set (i := 4) sc_l_sum.nd rfl (by first | exact Or.inl rfl | exact Or.inr rfl) (se_call (fnG_gq (G_l_of T)) (hr.mono (by omega)) hgd tk (by rfl) T.g_l_of T.u_l_of.kp T.b_l_of (gq_arity fnM_arity) (sa_cons (se_var 0 (pv 0)) (sa_cons (se_lst (sa_cons se_str (sa_cons se_str (sa_cons se_str sa_nil)))) sa_nil))))
      (sb_one (ss_ret (se_tup (sa_cons (se_var 4 (pv 4)) (sa_cons (se_call (fnG_gq ih) (hr.mono (by omega)) hgd tk (by rfl) T.g_l_sum T.u_l_sum.kp T.b_l_sum (gq_arity (A_l_sum n)) (sa_cons (se_var 0 (pv 0)) (sa_cons (se_var 1 (pv 1)) (sa_cons (se_var 2 (pv 2)) (sa_cons (se_op op_sub o_sub (se_var 3 (pv 3)) se_int) sa_nil))))) (sa_cons (se_call (fnG_gq ih) (hr.mono (by omega)) hgd tk (by rfl) T.g_l_sum T.u_l_sum.kp T.b_l_sum (gq_arity (A_l_sum n)) (sa_cons (se_var 0 (pv 0)) (sa_cons (se_var 1 (pv 1)) (sa_cons (se_var 2 (pv 2)) (sa_cons (se_op op_sub o_sub (se_var 3 (pv 3)) se_int) sa_nil))))) sa_nil))))))))
theorem G_l_sum (n : Nat) : FnG P w K mg base (2 + n) T.f_l_sum T.d_l_sum ["_law_pot_here", "_law_names", "_law_size", "_law_deep"] (F_l_sum n) := (S_l_sum T n)
theorem G_is_condition : FnG P w K mg base 14 T.f_is_condition T.d_is_condition ["value", "cells", "size"] F_is_condition :=
  fnG_mkX (k := 13) (.of T.u_is_condition) sc_is_condition fun cdv A outer s H E hr hgd tk =>
      (sb_cons (ss_if (PW.pt (sw_or (st_not (st_of (se_callB call_isi o_isi (by rfl) T.z_isinstance (by decide +kernel) (sa_cons (se_var 0 (pv 0)) (sa_cons (se_c (v := .ty "tuple") (pe_bltn (u := .type "tuple") (by rfl) T.z_tuple (by decide +kernel) rfl) fun _ _ _ => .ty "tuple") sa_nil))))) (sw_or (st_cmp (op_neA hr.units) o_ne (se_callB call_lenAll o_len (by rfl) T.z_len (by decide +kernel) (sa_cons (se_var 0 (pv 0)) sa_nil)) (se_c (v := .int 3) (pe_glob (by rfl) T.c_TRIPLE ⟨_, rfl⟩) fun _ _ _ => .int 3) (nomark _)) (sw_or1 (st_not (st_of (se_callB call_isi o_isi (by rfl) T.z_isinstance (by decide +kernel) (sa_cons (se_ix ix_seq o_ix (se_var 0 (pv 0)) se_int (fun _ _ => rfl)) (sa_cons (se_c (v := .ty "str") (pe_bltn (u := .type "str") (by rfl) T.z_str (by decide +kernel) rfl) fun _ _ _ => .ty "str") sa_nil))))))))) (sb_one (ss_ret se_bl)) sb_nil)
      (sb_one (ss_ret (se_and (se_cmp (op_inA (units65 hr)) o_in (se_ix ix_seq o_ix (se_var 0 (pv 0)) se_int (fun _ _ => rfl)) (se_ktp (by rfl) T.c_COMPARISONS T.q_COMPARISONS fun _ _ _ => (.cons (.str _) (.cons (.str _) .nil))) (by with_unfolding_all rfl)) (se_one (se_callB (cr_all rfl) o_all (by rfl) T.z_all (by decide +kernel) (sa_cons (se_lc (own := [("part", 3)]) rfl sc_is_condition.nd (si_any (se_slice (se_var 0 (pv 0)) (sp_some se_int) sp_none)) (blkOk_by (N := n_is_condition) (sc := defScope (topS 22)) (by decide +kernel)) (fun _ _ _ _ _ => (sg_name (pg_name (i := 3) sc_is_condition.nd rfl (by first | exact Or.inl rfl | exact Or.inr rfl)))) (fun _ _ _ _ _ => pts0) (fun _ _ _ _ _ => (se_callD (dvs := [.int 3]) (fnG_gq (G_is_expression T 12)) (hr.mono (by omega)) hgd takes0 (by rfl) T.g_is_expression T.u_is_expression.kp T.b_is_expression_0 (fun _ _ _ => (.cons (.int _) .nil)) (gq_arity (A_is_expression 12)) (sa_cons (se_var 3 (pv 3)) (sa_cons (se_var 1 (pv 1)) (sa_cons (se_var 2 (pv 2)) sa_nil)))))) sa_nil)))))))
theorem S_Run_do_all_Run_do_one : ∀ n : Nat, FnG P w K mg base (13 + n) T.f_Run_do_all T.d_Run_do_all ["self", "block"] (F_Run_do_all n) ∧ FnG P w K mg base (13 + n) T.f_Run_do_one T.d_Run_do_one ["self", "statement"] (F_Run_do_one n)
  | 0 => by
    refine ⟨?_, ?_⟩ <;> (simp only [F_Run_do_all, F_Run_do_one]; exact fnG_no)
  | n + 1 => by
    have ih := S_Run_do_all_Run_do_one n
    refine ⟨?_, ?_⟩
    · rw [F_Run_do_all]
      exact fnG_mkX (k := 13 + n) (.of T.u_Run_do_all) sc_Run_do_all fun cdv A outer s H E hr hgd tk =>
      (sb_one (ss_for (passes_of rfl) rfl (si_any (se_var 1 (pv 1))) (sg_name (pg_name (i := 2) sc_Run_do_all.nd rfl (by first | exact Or.inl rfl | exact Or.inr rfl))) (sb_one (ss_expr (se_meth (cn := "Run") (fnG_gq ih.2) (hr.mono (by omega)) hgd tk T.mi_Run_do_one T.b_Run_do_one (gq_arity (A_Run_do_one n)) (se_var 0 (pv 0)) (sa_cons (se_var 2 (pv 2)) sa_nil))))))
    · rw [F_Run_do_one]
      exact fnG_mkX (k := 13 + n) (.of T.u_Run_do_one) sc_Run_do_one fun cdv A outer s H E hr hgd tk =>
      (sb_cons (ss_set (i := 2) sc_Run_do_one.nd rfl (by first | exact Or.inl rfl | exact Or.inr rfl) (se_ix ix_seq o_ix (se_var 1 (pv 1)) se_int (fun _ _ => rfl)))
      (sb_one (ss_if (st_cmp (op_eqA hr.units) o_eq (se_var 2 (pv 2)) se_str (nomark _)) (sb_one (ss_as (se_meth (cn := "Run") (fnG_gq (G_Run_reckoned T 12)) (hr.mono (by omega)) hgd tk T.mi_Run_reckoned T.b_Run_reckoned (gq_arity (A_Run_reckoned 12)) (se_var 0 (pv 0)) (sa_cons (se_ix ix_seq o_ix (se_var 1 (pv 1)) se_int (fun _ _ => rfl)) sa_nil)) (sg_subA (units1 hr) (se_fld (cs := ["Run"]) (atC T.at_Run_cell_book atN) (se_var 0 (pv 0))) (se_ix ix_seq o_ix (se_var 1 (pv 1)) se_int (fun _ _ => rfl))))) (sb_one (ss_if (st_cmp (op_eqA hr.units) o_eq (se_var 2 (pv 2)) se_str (nomark _)) (sb_one (ss_expr (se_lm (name := "append") o_app (se_fld (cs := ["Run"]) (atC T.at_Run_sent_list atN) (se_var 0 (pv 0))) (sa_cons (se_tup (sa_cons (se_ix ix_seq o_ix (se_var 1 (pv 1)) se_int (fun _ _ => rfl)) (sa_cons (se_meth (cn := "Run") (fnG_gq (G_Run_reckoned T 12)) (hr.mono (by omega)) hgd tk T.mi_Run_reckoned T.b_Run_reckoned (gq_arity (A_Run_reckoned 12)) (se_var 0 (pv 0)) (sa_cons (se_ix ix_seq o_ix (se_var 1 (pv 1)) se_int (fun _ _ => rfl)) sa_nil)) sa_nil))) sa_nil) (fun h1 h2 => pe_bm PySem.F.plainAttrs_list PySem.F.slot_list_append PySem.F.type_list_append mt_append h1 h2)))) (sb_one (ss_if (st_cmp (op_inA (units65 hr)) o_in (se_var 2 (pv 2)) (se_tup (sa_cons se_str (sa_cons se_str sa_nil))) (by with_unfolding_all rfl)) (sb_one (ss_as (se_if (st_cmp (op_eqA hr.units) o_eq (se_var 2 (pv 2)) se_str (nomark _)) (se_meth (cn := "Run") (fnG_gq (G_Run_reckoned T 12)) (hr.mono (by omega)) hgd tk T.mi_Run_reckoned T.b_Run_reckoned (gq_arity (A_Run_reckoned 12)) (se_var 0 (pv 0)) (sa_cons (se_ix ix_seq o_ix (se_var 1 (pv 1)) se_int (fun _ _ => rfl)) sa_nil)) se_non) (sg_subA (units1 hr) (se_fld (cs := ["Run"]) (atC T.at_Run_alarm_book atN) (se_var 0 (pv 0))) (se_ix ix_seq o_ix (se_var 1 (pv 1)) se_int (fun _ _ => rfl))))) (sb_one (ss_if (st_cmp (op_eqA hr.units) o_eq (se_var 2 (pv 2)) se_str (nomark _)) (sb_one (ss_expr (se_lm (name := "append") o_app (se_fld (cs := ["Run"]) (atC T.at_Run_said_list atN) (se_var 0 (pv 0))) (sa_cons (se_meth (cn := "Run") (fnG_gq (G_Run_reckoned T 12)) (hr.mono (by omega)) hgd tk T.mi_Run_reckoned T.b_Run_reckoned (gq_arity (A_Run_reckoned 12)) (se_var 0 (pv 0)) (sa_cons (se_ix ix_seq o_ix (se_var 1 (pv 1)) se_int (fun _ _ => rfl)) sa_nil)) sa_nil) (fun h1 h2 => pe_bm PySem.F.plainAttrs_list PySem.F.slot_list_append PySem.F.type_list_append mt_append h1 h2)))) (sb_one (ss_if (st_cmp (op_eqA hr.units) o_eq (se_var 2 (pv 2)) se_str (nomark _)) (sb_one (ss_expr (se_meth (cn := "Run") (fnG_gq ih.1) (hr.mono (by omega)) hgd tk T.mi_Run_do_all T.b_Run_do_all (gq_arity (A_Run_do_all n)) (se_var 0 (pv 0)) (sa_cons (se_if (st_of (se_meth (cn := "Run") (fnG_gq (G_Run_is_so T)) (hr.mono (by omega)) hgd tk T.mi_Run_is_so T.b_Run_is_so (gq_arity fnM_arity) (se_var 0 (pv 0)) (sa_cons (se_ix ix_seq o_ix (se_var 1 (pv 1)) se_int (fun _ _ => rfl)) sa_nil))) (se_ix ix_seq o_ix (se_var 1 (pv 1)) se_int (fun _ _ => rfl)) (se_ix ix_seq o_ix (se_var 1 (pv 1)) se_int (fun _ _ => rfl))) sa_nil)))) (sb_one (ss_for (passes_of rfl) rfl (si_range1 (by rfl) T.z_range (sa_cons (se_meth (cn := "Run") (fnG_gq (G_Run_reckoned T 12)) (hr.mono (by omega)) hgd tk T.mi_Run_reckoned T.b_Run_reckoned (gq_arity (A_Run_reckoned 12)) (se_var 0 (pv 0)) (sa_cons (se_ix ix_seq o_ix (se_var 1 (pv 1)) se_int (fun _ _ => rfl)) sa_nil)) sa_nil)) (sg_name (pg_name (i := 3) sc_Run_do_one.nd rfl (by first | exact Or.inl rfl | exact Or.inr rfl))) (sb_one (ss_expr (se_meth (cn := "Run") (fnG_gq ih.1) (hr.mono (by omega)) hgd tk T.mi_Run_do_all T.b_Run_do_all (gq_arity (A_Run_do_all n)) (se_var 0 (pv 0)) (sa_cons (se_ix ix_seq o_ix (se_var 1 (pv 1)) se_int (fun _ _ => rfl)) sa_nil)))))))))))))))))
theorem G_Run_do_all (n : Nat) : FnG P w K mg base (13 + n) T.f_Run_do_all T.d_Run_do_all ["self", "block"] (F_Run_do_all n) := (S_Run_do_all_Run_do_one T n).1
theorem G_Run_do_one (n : Nat) : FnG P w K mg base (13 + n) T.f_Run_do_one T.d_Run_do_one ["self", "statement"] (F_Run_do_one n) := (S_Run_do_all_Run_do_one T n).2
theorem S_is_statement_is_program : ∀ n : Nat, FnG P w K mg base (14 + n) T.f_is_statement T.d_is_statement ["value", "ports", "size", "depth"] (F_is_statement n) ∧ FnG P w K mg base (14 + n) T.f_is_program T.d_is_program ["value", "ports", "size", "depth"] (F_is_program n)
  | 0 => by
    refine ⟨?_, ?_⟩ <;> (simp only [F_is_statement, F_is_program]; exact fnG_no)
  | n + 1 => by
    have ih := S_is_statement_is_program n
    refine ⟨?_, ?_⟩
    · rw [F_is_statement]
      exact fnG_mkX (k := 14 + n) (.of T.u_is_statement) sc_is_statement fun cdv A outer s H E hr hgd tk =>
      (sb_cons (ss_if (PW.pt (sw_or (st_not (st_of (se_callB call_isi o_isi (by rfl) T.z_isinstance (by decide +kernel) (sa_cons (se_var 0 (pv 0)) (sa_cons (se_c (v := .ty "tuple") (pe_bltn (u := .type "tuple") (by rfl) T.z_tuple (by decide +kernel) rfl) fun _ _ _ => .ty "tuple") sa_nil))))) (sw_or (st_cmp (op_eqE hr.units) o_eqE (se_var 0 (pv 0)) (se_tup sa_nil) (nomark _)) (sw_or1 (st_not (st_of (se_callB call_isi o_isi (by rfl) T.z_isinstance (by decide +kernel) (sa_cons (se_ix ix_seq o_ix (se_var 0 (pv 0)) se_int (fun _ _ => rfl)) (sa_cons (se_c (v := .ty "str") (pe_bltn (u := .type "str") (by rfl) T.z_str (by decide +kernel) rfl) fun _ _ _ => .ty "str") sa_nil))))))))) (sb_one (ss_ret se_bl)) sb_nil)
      (sb_cons (ss_if (st_cmp (op_neA hr.units) o_ne (se_kget (by rfl) T.c_PARTS T.q_PARTS kf_PARTS (se_ix ix_seq o_ix (se_var 0 (pv 0)) se_int (fun _ _ => rfl)) se_int ⟨rfl, rfl, rfl, rfl⟩) (se_callB call_lenAll o_len (by rfl) T.z_len (by decide +kernel) (sa_cons (se_var 0 (pv 0)) sa_nil)) (nomark _)) (sb_one (ss_ret se_bl)) sb_nil)
      (sb_cons (ss_as (se_var 1 (pv 1)) (sg_tup rfl (sgs_cons (sg_name (pg_name (i := 4) sc_is_statement.nd rfl (by first | exact Or.inl rfl | exact Or.inr rfl))) (sgs_cons (sg_name (pg_name (i := 5) sc_is_statement.nd rfl (by first | exact Or.inl rfl | exact Or.inr rfl))) (sgs_cons (sg_name (pg_name (i := 6) sc_is_statement.nd rfl (by first | exact Or.inl rfl | exact Or.inr rfl))) sgs_nil gT0_noerr) (gTc_noerr gN_noerr gT0_noerr)) (gTc_noerr gN_noerr (gTc_noerr gN_noerr gT0_noerr))) (by rfl) (gTc_len (gTc_len (gTc_len gT0_len))) (gTc_noerr gN_noerr (gTc_noerr gN_noerr (gTc_noerr gN_noerr gT0_noerr)))))
      (sb_cons (ss_if (st_cmp (op_eqA hr.units) o_eq (se_ix ix_seq o_ix (se_var 0 (pv 0)) se_int (fun _ _ => rfl)) se_str (nomark _)) (sb_one (ss_ret (se_call (fnG_gq (G_is_named T)) (hr.mono (by omega)) hgd tk (by rfl) T.g_is_named T.u_is_named.kp T.b_is_named (gq_arity fnM_arity) (sa_cons (se_ix ix_seq o_ix (se_var 0 (pv 0)) se_int (fun _ _ => rfl)) (sa_cons (se_var 6 (pv 6)) sa_nil))))) sb_nil)
      (sb_cons (ss_if (st_cmp (op_eqA hr.units) o_eq (se_ix ix_seq o_ix (se_var 0 (pv 0)) se_int (fun _ _ => rfl)) se_str (nomark _)) (sb_one (ss_ret (se_callD (dvs := [.int 3]) (fnG_gq (G_is_expression T 12)) (hr.mono (by omega)) hgd tk (by rfl) T.g_is_expression T.u_is_expression.kp T.b_is_expression_0 (fun _ _ _ => (.cons (.int _) .nil)) (gq_arity (A_is_expression 12)) (sa_cons (se_ix ix_seq o_ix (se_var 0 (pv 0)) se_int (fun _ _ => rfl)) (sa_cons (se_var 4 (pv 4)) (sa_cons (se_var 2 (pv 2)) sa_nil)))))) sb_nil)
      (sb_cons (ss_if (st_cmp (op_inA (units65 hr)) o_in (se_ix ix_seq o_ix (se_var 0 (pv 0)) se_int (fun _ _ => rfl)) (se_ktp (by rfl) T.c_NAMED T.q_NAMED fun _ _ _ => (.cons (.str _) (.cons (.str _) (.cons (.str _) .nil)))) (by with_unfolding_all rfl)) (sb_cons (ss_set (i := 7) sc_is_statement.nd rfl (by first | exact Or.inl rfl | exact Or.inr rfl) (se_ix ix_seq o_ix (se_var 1 (pv 1)) (se_tm (name := "index") o_idxA (se_ktp (by rfl) T.c_NAMED T.q_NAMED fun _ _ _ => (.cons (.str _) (.cons (.str _) (.cons (.str _) .nil)))) (sa_cons (se_ix ix_seq o_ix (se_var 0 (pv 0)) se_int (fun _ _ => rfl)) sa_nil) (fun h1 h2 => pe_bmF PySem.F.slot_tuple_index PySem.F.type_tuple_index mt_tup_index h1 h2)) (fun _ _ => rfl)))
      (sb_one (ss_ret (se_and (se_call (fnG_gq (G_is_named T)) (hr.mono (by omega)) hgd tk (by rfl) T.g_is_named T.u_is_named.kp T.b_is_named (gq_arity fnM_arity) (sa_cons (se_ix ix_seq o_ix (se_var 0 (pv 0)) se_int (fun _ _ => rfl)) (sa_cons (se_var 7 (pv 7)) sa_nil))) (se_one (se_callD (dvs := [.int 3]) (fnG_gq (G_is_expression T 12)) (hr.mono (by omega)) hgd tk (by rfl) T.g_is_expression T.u_is_expression.kp T.b_is_expression_0 (fun _ _ _ => (.cons (.int _) .nil)) (gq_arity (A_is_expression 12)) (sa_cons (se_ix ix_seq o_ix (se_var 0 (pv 0)) se_int (fun _ _ => rfl)) (sa_cons (se_var 4 (pv 4)) (sa_cons (se_var 2 (pv 2)) sa_nil))))))))) sb_nil)
      (sb_cons (ss_if (st_cmp (op_geA hr.units0) o_ord (se_var 3 (pv 3)) (se_c (v := .int 3) (pe_glob (by rfl) T.c_DEEPEST ⟨_, rfl⟩) fun _ _ _ => .int 3) (nomark _)) (sb_one (ss_ret se_bl)) sb_nil)
      (sb_cons (ss_if (st_cmp (op_eqA hr.units) o_eq (se_ix ix_seq o_ix (se_var 0 (pv 0)) se_int (fun _ _ => rfl)) se_str (nomark _)) (sb_one (ss_ret (se_and (se_callD (dvs := [.int 3]) (fnG_gq (G_is_expression T 12)) (hr.mono (by omega)) hgd tk (by rfl) T.g_is_expression T.u_is_expression.kp T.b_is_expression_0 (fun _ _ _ => (.cons (.int _) .nil)) (gq_arity (A_is_expression 12)) (sa_cons (se_ix ix_seq o_ix (se_var 0 (pv 0)) se_int (fun _ _ => rfl)) (sa_cons (se_var 4 (pv 4)) (sa_cons (se_var 2 (pv 2)) sa_nil)))) (se_one (se_callD (dvs := []) (fnG_gq ih.2) (hr.mono (by omega)) hgd tk (by rfl) T.g_is_program T.u_is_program.kp T.b_is_program_1 (fun _ _ _ => .nil) (gq_arity (A_is_program n)) (sa_cons (se_ix ix_seq o_ix (se_var 0 (pv 0)) se_int (fun _ _ => rfl)) (sa_cons (se_var 1 (pv 1)) (sa_cons (se_var 2 (pv 2)) (sa_cons (se_op op_addAll o_add (se_var 3 (pv 3)) se_int) sa_nil))))))))) sb_nil)
      (sb_cons (ss_set (i := 8) sc_is_statement.nd rfl (by first | exact Or.inl rfl | exact Or.inr rfl) (se_call (fnG_gq (G_is_condition T)) (hr.mono (by omega)) hgd tk (by rfl) T.g_is_condition T.u_is_condition.kp T.b_is_condition (gq_arity fnM_arity) (sa_cons (se_ix ix_seq o_ix (se_var 0 (pv 0)) se_int (fun _ _ => rfl)) (sa_cons (se_var 4 (pv 4)) (sa_cons (se_var 2 (pv 2)) sa_nil)))))
      (sb_one (ss_ret (se_and (se_var 8 (pv 8)) (se_one (se_callB (cr_all rfl) o_all (by rfl) T.z_all (by decide +kernel) (sa_cons (se_lc (own := [("block", 9)]) rfl sc_is_statement.nd (si_any (se_slice (se_var 0 (pv 0)) (sp_some se_int) sp_none)) (blkOk_by (N := n_is_statement) (sc := defScope (topS 24)) (by decide +kernel)) (fun _ _ _ _ _ => (sg_name (pg_name (i := 9) sc_is_statement.nd rfl (by first | exact Or.inl rfl | exact Or.inr rfl)))) (fun _ _ _ _ _ => pts0) (fun _ _ _ _ _ => (se_callD (dvs := []) (fnG_gq ih.2) (hr.mono (by omega)) hgd takes0 (by rfl) T.g_is_program T.u_is_program.kp T.b_is_program_1 (fun _ _ _ => .nil) (gq_arity (A_is_program n)) (sa_cons (se_var 9 (pv 9)) (sa_cons (se_var 1 (pv 1)) (sa_cons (se_var 2 (pv 2)) (sa_cons (se_op op_addAll o_add (se_var 3 (pv 3)) se_int) sa_nil))))))) sa_nil)))))))))))))))
    · rw [F_is_program]
      exact fnG_mkX (k := 14 + n) (.ofD T.u_is_program) sc_is_program fun cdv A outer s H E hr hgd tk =>
      (sb_cons (ss_if (PW.pt (sw_or (st_not (st_of (se_callB call_isi o_isi (by rfl) T.z_isinstance (by decide +kernel) (sa_cons (se_var 0 (pv 0)) (sa_cons (se_c (v := .ty "tuple") (pe_bltn (u := .type "tuple") (by rfl) T.z_tuple (by decide +kernel) rfl) fun _ _ _ => .ty "tuple") sa_nil))))) (sw_or1 (st_cmp (op_gtA hr.units0) o_ord (se_callB call_lenAll o_len (by rfl) T.z_len (by decide +kernel) (sa_cons (se_var 0 (pv 0)) sa_nil)) (se_c (v := .int 6) (pe_glob (by rfl) T.c_MOST_STATEMENTS ⟨_, rfl⟩) fun _ _ _ => .int 6) (nomark _))))) (sb_one (ss_ret se_bl)) sb_nil)
      (sb_one (ss_ret (se_callB (cr_all rfl) o_all (by rfl) T.z_all (by decide +kernel) (sa_cons (se_lc (own := [("part", 4)]) rfl sc_is_program.nd (si_any (se_var 0 (pv 0))) (blkOk_by (N := n_is_program) (sc := defScope (topS 25)) (by decide +kernel)) (fun _ _ _ _ _ => (sg_name (pg_name (i := 4) sc_is_program.nd rfl (by first | exact Or.inl rfl | exact Or.inr rfl)))) (fun _ _ _ _ _ => pts0) (fun _ _ _ _ _ => (se_call (fnG_gq ih.1) (hr.mono (by omega)) hgd takes0 (by rfl) T.g_is_statement T.u_is_statement.kp T.b_is_statement (gq_arity (A_is_statement n)) (sa_cons (se_var 4 (pv 4)) (sa_cons (se_var 1 (pv 1)) (sa_cons (se_var 2 (pv 2)) (sa_cons (se_var 3 (pv 3)) sa_nil))))))) sa_nil)))))
theorem G_is_statement (n : Nat) : FnG P w K mg base (14 + n) T.f_is_statement T.d_is_statement ["value", "ports", "size", "depth"] (F_is_statement n) := (S_is_statement_is_program T n).1
theorem G_is_program (n : Nat) : FnG P w K mg base (14 + n) T.f_is_program T.d_is_program ["value", "ports", "size", "depth"] (F_is_program n) := (S_is_statement_is_program T n).2
theorem G_run_station : FnG P w K mg base 26 T.f_run_station T.d_run_station ["size", "station", "worths", "rank", "it"] F_run_station :=
  fnG_mkX (k := 25) (.of T.u_run_station) sc_run_station fun cdv A outer s H E hr hgd tk =>
      (sb_cons (ss_as (se_var 1 (pv 1)) (sg_tup rfl (sgs_cons (sg_name (pg_name (i := 5) sc_run_station.nd rfl (by first | exact Or.inl rfl | exact Or.inr rfl))) (sgs_cons (sg_name (pg_name (i := 6) sc_run_station.nd rfl (by first | exact Or.inl rfl | exact Or.inr rfl))) (sgs_cons (sg_name (pg_name (i := 7) sc_run_station.nd rfl (by first | exact Or.inl rfl | exact Or.inr rfl))) (sgs_cons (sg_name (pg_name (i := 8) sc_run_station.nd rfl (by first | exact Or.inl rfl | exact Or.inr rfl))) (sgs_cons (sg_name (pg_name (i := 9) sc_run_station.nd rfl (by first | exact Or.inl rfl | exact Or.inr rfl))) (sgs_cons (sg_name (pg_name (i := 10) sc_run_station.nd rfl (by first | exact Or.inl rfl | exact Or.inr rfl))) sgs_nil gT0_noerr) (gTc_noerr gN_noerr gT0_noerr)) (gTc_noerr gN_noerr (gTc_noerr gN_noerr gT0_noerr))) (gTc_noerr gN_noerr (gTc_noerr gN_noerr (gTc_noerr gN_noerr gT0_noerr)))) (gTc_noerr gN_noerr (gTc_noerr gN_noerr (gTc_noerr gN_noerr (gTc_noerr gN_noerr gT0_noerr))))) (gTc_noerr gN_noerr (gTc_noerr gN_noerr (gTc_noerr gN_noerr (gTc_noerr gN_noerr (gTc_noerr gN_noerr gT0_noerr)))))) (by rfl) (gTc_len (gTc_len (gTc_len (gTc_len (gTc_len (gTc_len gT0_len)))))) (gTc_noerr gN_noerr (gTc_noerr gN_noerr (gTc_noerr gN_noerr (gTc_noerr gN_noerr (gTc_noerr gN_noerr (gTc_noerr gN_noerr gT0_noerr))))))))
      (sb_cons (ss_set (i := 11) sc_run_station.nd rfl (by first | exact Or.inl rfl | exact Or.inr rfl) (se_make (cn := "Run") (G_Run___init__ T) (hr.mono (by omega)) hgd (hgm_of hgd) tk T.mk_Run (by rfl) T.g_Run T.b_Run___init__ fnM_arity (sa_cons (se_var 0 (pv 0)) (sa_cons (se_dc (tk := false) (own := [("cell", 14), ("worth", 15)]) (units1 hr) rfl sc_run_station.nd (si_zip (by rfl) T.z_zip (sa_cons (se_var 6 (pv 6)) (sa_cons (se_var 2 (pv 2)) sa_nil))) (blkOk_by (N := n_run_station) (sc := defScope (topS 51)) (by decide +kernel)) (fun _ _ _ _ _ => (sg_tup rfl (sgs_cons (sg_name (pg_name (i := 14) sc_run_station.nd rfl (by first | exact Or.inl rfl | exact Or.inr rfl))) (sgs_cons (sg_name (pg_name (i := 15) sc_run_station.nd rfl (by first | exact Or.inl rfl | exact Or.inr rfl))) sgs_nil gT0_noerr) (gTc_noerr gN_noerr gT0_noerr)) (by rfl) (gTc_len (gTc_len gT0_len)) (gTc_noerr gN_noerr (gTc_noerr gN_noerr gT0_noerr)))) (fun _ _ _ _ _ => pts0) (fun _ _ _ _ _ => (se_ix ix_seq o_ix (se_var 14 (pv 14)) se_int (fun _ _ => rfl))) (fun _ _ _ _ _ => (se_var 15 (pv 15)))) (sa_cons (se_var 4 (pv 4)) sa_nil)))))
      (sb_cons (ss_expr (se_meth (cn := "Run") (fnG_gq (G_Run_do_all T 12)) (hr.mono (by omega)) hgd tk T.mi_Run_do_all T.b_Run_do_all (gq_arity (A_Run_do_all 12)) (se_var 11 (pv 11)) (sa_cons (se_ix ix_seq o_ix (se_var 10 (pv 10)) (se_var 3 (pv 3)) (fun _ _ => rfl)) sa_nil)))
      (sb_cons (ss_set (i := 12) sc_run_station.nd rfl (by first | exact Or.inl rfl | exact Or.inr rfl) (se_callTy c_tuple o_tuple (by rfl) T.z_tuple (by decide +kernel) (sa_cons (se_lc (own := [("cell", 14)]) rfl sc_run_station.nd (si_any (se_var 6 (pv 6))) (blkOk_by (N := n_run_station) (sc := defScope (topS 51)) (by decide +kernel)) (fun _ _ _ _ _ => (sg_name (pg_name (i := 14) sc_run_station.nd rfl (by first | exact Or.inl rfl | exact Or.inr rfl)))) (fun _ _ _ _ _ => pts0) (fun _ _ _ _ _ => (se_ix (ix_all (units1 hr)) o_ixA (se_fld (cs := ["Run"]) (atC T.at_Run_cell_book atN) (se_var 11 (pv 11))) (se_ix ix_seq o_ix (se_var 14 (pv 14)) se_int (fun _ _ => rfl)) (fun _ _ => rfl)))) sa_nil)))
      (sb_cons (ss_set (i := 13) sc_run_station.nd rfl (by first | exact Or.inl rfl | exact Or.inr rfl) (se_callTy c_tuple o_tuple (by rfl) T.z_tuple (by decide +kernel) (sa_cons (se_lc (own := [("alarm", 16)]) rfl sc_run_station.nd (si_any (se_var 9 (pv 9))) (blkOk_by (N := n_run_station) (sc := defScope (topS 51)) (by decide +kernel)) (fun _ _ _ _ _ => (sg_name (pg_name (i := 16) sc_run_station.nd rfl (by first | exact Or.inl rfl | exact Or.inr rfl)))) (fun _ _ _ _ _ => pts_one (st_cmp (op_inB (units65 hr)) o_inB (se_var 16 (pv 16)) (se_fld (cs := ["Run"]) (atC T.at_Run_alarm_book atN) (se_var 11 (pv 11))) (by with_unfolding_all rfl))) (fun _ _ _ _ _ => (se_tup (sa_cons (se_var 16 (pv 16)) (sa_cons (se_ix (ix_all (units1 hr)) o_ixA (se_fld (cs := ["Run"]) (atC T.at_Run_alarm_book atN) (se_var 11 (pv 11))) (se_var 16 (pv 16)) (fun _ _ => rfl)) sa_nil))))) sa_nil)))
      (sb_one (ss_ret (se_tup (sa_cons (se_var 12 (pv 12)) (sa_cons (se_callTy c_tuple o_tuple (by rfl) T.z_tuple (by decide +kernel) (sa_cons (se_fld (cs := ["Run"]) (atC T.at_Run_sent_list atN) (se_var 11 (pv 11))) sa_nil)) (sa_cons (se_var 13 (pv 13)) (sa_cons (se_callTy c_tuple o_tuple (by rfl) T.z_tuple (by decide +kernel) (sa_cons (se_fld (cs := ["Run"]) (atC T.at_Run_said_list atN) (se_var 11 (pv 11))) sa_nil)) sa_nil))))))))))))
theorem G_is_station : FnG P w K mg base 27 T.f_is_station T.d_is_station ["value", "size"] F_is_station :=
  fnG_mkX (k := 26) (.of T.u_is_station) sc_is_station fun cdv A outer s H E hr hgd tk =>
      (sb_cons (ss_if (PW.pt (sw_or (st_not (st_of (se_callB call_isi o_isi (by rfl) T.z_isinstance (by decide +kernel) (sa_cons (se_var 0 (pv 0)) (sa_cons (se_c (v := .ty "tuple") (pe_bltn (u := .type "tuple") (by rfl) T.z_tuple (by decide +kernel) rfl) fun _ _ _ => .ty "tuple") sa_nil))))) (sw_or (st_cmp (op_neA hr.units) o_ne (se_callB call_lenAll o_len (by rfl) T.z_len (by decide +kernel) (sa_cons (se_var 0 (pv 0)) sa_nil)) (se_c (v := .int 6) (pe_glob (by rfl) T.c_STATION_PARTS ⟨_, rfl⟩) fun _ _ _ => .int 6) (nomark _)) (sw_or1 (st_not (st_of (se_call (fnG_gq (G_is_name T)) (hr.mono (by omega)) hgd tk (by rfl) T.g_is_name T.u_is_name.kp T.b_is_name (gq_arity fnM_arity) (sa_cons (se_ix ix_seq o_ix (se_var 0 (pv 0)) se_int (fun _ _ => rfl)) sa_nil)))))))) (sb_one (ss_ret se_bl)) sb_nil)
      (sb_cons (ss_as (se_var 0 (pv 0)) (sg_tup rfl (sgs_cons (sg_name (pg_name (i := 2) sc_is_station.nd rfl (by first | exact Or.inl rfl | exact Or.inr rfl))) (sgs_cons (sg_name (pg_name (i := 3) sc_is_station.nd rfl (by first | exact Or.inl rfl | exact Or.inr rfl))) (sgs_cons (sg_name (pg_name (i := 4) sc_is_station.nd rfl (by first | exact Or.inl rfl | exact Or.inr rfl))) (sgs_cons (sg_name (pg_name (i := 5) sc_is_station.nd rfl (by first | exact Or.inl rfl | exact Or.inr rfl))) (sgs_cons (sg_name (pg_name (i := 6) sc_is_station.nd rfl (by first | exact Or.inl rfl | exact Or.inr rfl))) (sgs_cons (sg_name (pg_name (i := 7) sc_is_station.nd rfl (by first | exact Or.inl rfl | exact Or.inr rfl))) sgs_nil gT0_noerr) (gTc_noerr gN_noerr gT0_noerr)) (gTc_noerr gN_noerr (gTc_noerr gN_noerr gT0_noerr))) (gTc_noerr gN_noerr (gTc_noerr gN_noerr (gTc_noerr gN_noerr gT0_noerr)))) (gTc_noerr gN_noerr (gTc_noerr gN_noerr (gTc_noerr gN_noerr (gTc_noerr gN_noerr gT0_noerr))))) (gTc_noerr gN_noerr (gTc_noerr gN_noerr (gTc_noerr gN_noerr (gTc_noerr gN_noerr (gTc_noerr gN_noerr gT0_noerr)))))) (by rfl) (gTc_len (gTc_len (gTc_len (gTc_len (gTc_len (gTc_len gT0_len)))))) (gTc_noerr gN_noerr (gTc_noerr gN_noerr (gTc_noerr gN_noerr (gTc_noerr gN_noerr (gTc_noerr gN_noerr (gTc_noerr gN_noerr gT0_noerr))))))))
      (sb_cons (ss_if (PW.pt (sw_or (st_not (st_of (se_call (fnG_gq (G_are_cells T)) (hr.mono (by omega)) hgd tk (by rfl) T.g_are_cells T.u_are_cells.kp T.b_are_cells (gq_arity fnM_arity) (sa_cons (se_var 3 (pv 3)) (sa_cons (se_var 1 (pv 1)) sa_nil))))) (sw_or (st_not (st_of (se_call (fnG_gq (G_are_names T)) (hr.mono (by omega)) hgd tk (by rfl) T.g_are_names T.u_are_names.kp T.b_are_names (gq_arity fnM_arity) (sa_cons (se_var 4 (pv 4)) (sa_cons (se_c (v := .int 3) (pe_glob (by rfl) T.c_MOST_PORTS ⟨_, rfl⟩) fun _ _ _ => .int 3) sa_nil))))) (sw_or1 (st_not (st_of (se_call (fnG_gq (G_are_names T)) (hr.mono (by omega)) hgd tk (by rfl) T.g_are_names T.u_are_names.kp T.b_are_names (gq_arity fnM_arity) (sa_cons (se_var 5 (pv 5)) (sa_cons (se_c (v := .int 3) (pe_glob (by rfl) T.c_MOST_PORTS ⟨_, rfl⟩) fun _ _ _ => .int 3) sa_nil))))))))) (sb_one (ss_ret se_bl)) sb_nil)
      (sb_cons (ss_if (PW.pt (sw_or (st_not (st_of (se_call (fnG_gq (G_are_names T)) (hr.mono (by omega)) hgd tk (by rfl) T.g_are_names T.u_are_names.kp T.b_are_names (gq_arity fnM_arity) (sa_cons (se_var 6 (pv 6)) (sa_cons (se_c (v := .int 2) (pe_glob (by rfl) T.c_MOST_ALARMS ⟨_, rfl⟩) fun _ _ _ => .int 2) sa_nil))))) (sw_or (st_not (st_of (se_callB call_isi o_isi (by rfl) T.z_isinstance (by decide +kernel) (sa_cons (se_var 7 (pv 7)) (sa_cons (se_c (v := .ty "tuple") (pe_bltn (u := .type "tuple") (by rfl) T.z_tuple (by decide +kernel) rfl) fun _ _ _ => .ty "tuple") sa_nil))))) (sw_or1 (st_cmp (op_neA hr.units) o_ne (se_callB call_lenAll o_len (by rfl) T.z_len (by decide +kernel) (sa_cons (se_var 7 (pv 7)) sa_nil)) (se_op op_addAll o_add (se_callB call_lenAll o_len (by rfl) T.z_len (by decide +kernel) (sa_cons (se_var 6 (pv 6)) sa_nil)) (se_callB call_lenAll o_len (by rfl) T.z_len (by decide +kernel) (sa_cons (se_var 4 (pv 4)) sa_nil))) (nomark _)))))) (sb_one (ss_ret se_bl)) sb_nil)
      (sb_cons (ss_set (i := 8) sc_is_station.nd rfl (by first | exact Or.inl rfl | exact Or.inr rfl) (se_callTy c_tuple o_tuple (by rfl) T.z_tuple (by decide +kernel) (sa_cons (se_lc (own := [("cell", 10)]) rfl sc_is_station.nd (si_any (se_var 3 (pv 3))) (blkOk_by (N := n_is_station) (sc := defScope (topS 39)) (by decide +kernel)) (fun _ _ _ _ _ => (sg_name (pg_name (i := 10) sc_is_station.nd rfl (by first | exact Or.inl rfl | exact Or.inr rfl)))) (fun _ _ _ _ _ => pts0) (fun _ _ _ _ _ => (se_ix ix_seq o_ix (se_var 10 (pv 10)) se_int (fun _ _ => rfl)))) sa_nil)))
      (sb_cons (ss_set (i := 9) sc_is_station.nd rfl (by first | exact Or.inl rfl | exact Or.inr rfl) (se_op op_addAll o_add (se_op op_addAll o_add (se_op op_addAll o_add (se_var 8 (pv 8)) (se_var 4 (pv 4))) (se_var 5 (pv 5))) (se_var 6 (pv 6))))
      (sb_cons (ss_if (PW.pt (sw_or (st_cmp (op_inA (units65 hr)) o_in (se_c (v := .str (PySem.Str.ofString "it")) (pe_glob (by rfl) T.c_IT ⟨_, rfl⟩) fun _ _ _ => .str _) (se_var 9 (pv 9)) (by with_unfolding_all rfl)) (sw_or1 (st_cmp (op_neA hr.units) o_ne (se_callB call_lenAll o_len (by rfl) T.z_len (by decide +kernel) (sa_cons (se_dc (tk := false) (own := [("one", 12)]) (units1 hr) rfl sc_is_station.nd (si_any (se_var 9 (pv 9))) (blkOk_by (N := n_is_station) (sc := defScope (topS 39)) (by decide +kernel)) (fun _ _ _ _ _ => (sg_name (pg_name (i := 12) sc_is_station.nd rfl (by first | exact Or.inl rfl | exact Or.inr rfl)))) (fun _ _ _ _ _ => pts0) (fun _ _ _ _ _ => (se_var 12 (pv 12))) (fun _ _ _ _ _ => se_bl)) sa_nil)) (se_callB call_lenAll o_len (by rfl) T.z_len (by decide +kernel) (sa_cons (se_var 9 (pv 9)) sa_nil)) (nomark _))))) (sb_one (ss_ret se_bl)) sb_nil)
      (sb_one (ss_ret (se_callB (cr_all rfl) o_all (by rfl) T.z_all (by decide +kernel) (sa_cons (se_lc (own := [("block", 11)]) rfl sc_is_station.nd (si_any (se_var 7 (pv 7))) (blkOk_by (N := n_is_station) (sc := defScope (topS 39)) (by decide +kernel)) (fun _ _ _ _ _ => (sg_name (pg_name (i := 11) sc_is_station.nd rfl (by first | exact Or.inl rfl | exact Or.inr rfl)))) (fun _ _ _ _ _ => pts0) (fun _ _ _ _ _ => (se_callD (dvs := [.int 1]) (fnG_gq (G_is_program T 12)) (hr.mono (by omega)) hgd takes0 (by rfl) T.g_is_program T.u_is_program.kp T.b_is_program_0 (fun _ _ _ => (.cons (.int _) .nil)) (gq_arity (A_is_program 12)) (sa_cons (se_var 11 (pv 11)) (sa_cons (se_tup (sa_cons (se_var 8 (pv 8)) (sa_cons (se_var 5 (pv 5)) (sa_cons (se_var 6 (pv 6)) sa_nil)))) (sa_cons (se_var 1 (pv 1)) sa_nil)))))) sa_nil)))))))))))
theorem G_are_stations : FnG P w K mg base 28 T.f_are_stations T.d_are_stations ["value", "size"] F_are_stations :=
  fnG_mkX (k := 27) (.of T.u_are_stations) sc_are_stations fun cdv A outer s H E hr hgd tk =>
      (sb_cons (ss_if (PW.pt (sw_or (st_not (st_of (se_callB call_isi o_isi (by rfl) T.z_isinstance (by decide +kernel) (sa_cons (se_var 0 (pv 0)) (sa_cons (se_c (v := .ty "tuple") (pe_bltn (u := .type "tuple") (by rfl) T.z_tuple (by decide +kernel) rfl) fun _ _ _ => .ty "tuple") sa_nil))))) (sw_or (st_cmp (op_eqE hr.units) o_eqE (se_var 0 (pv 0)) (se_tup sa_nil) (nomark _)) (sw_or1 (st_not (st_of (se_callB (cr_all rfl) o_all (by rfl) T.z_all (by decide +kernel) (sa_cons (se_lc (own := [("part", 2)]) rfl sc_are_stations.nd (si_any (se_var 0 (pv 0))) (blkOk_by (N := n_are_stations) (sc := defScope (topS 40)) (by decide +kernel)) (fun _ _ _ _ _ => (sg_name (pg_name (i := 2) sc_are_stations.nd rfl (by first | exact Or.inl rfl | exact Or.inr rfl)))) (fun _ _ _ _ _ => pts0) (fun _ _ _ _ _ => (se_call (fnG_gq (G_is_station T)) (hr.mono (by omega)) hgd takes0 (by rfl) T.g_is_station T.u_is_station.kp T.b_is_station (gq_arity fnM_arity) (sa_cons (se_var 2 (pv 2)) (sa_cons (se_var 1 (pv 1)) sa_nil))))) sa_nil)))))))) (sb_one (ss_ret se_bl)) sb_nil)
      (sb_one (ss_ret (se_cmp (op_eqA hr.units) o_eq (se_callB call_lenAll o_len (by rfl) T.z_len (by decide +kernel) (sa_cons (se_dc (tk := false) (own := [("part", 2)]) (units1 hr) rfl sc_are_stations.nd (si_any (se_var 0 (pv 0))) (blkOk_by (N := n_are_stations) (sc := defScope (topS 40)) (by decide +kernel)) (fun _ _ _ _ _ => (sg_name (pg_name (i := 2) sc_are_stations.nd rfl (by first | exact Or.inl rfl | exact Or.inr rfl)))) (fun _ _ _ _ _ => pts0) (fun _ _ _ _ _ => (se_ix ix_seq o_ix (se_var 2 (pv 2)) se_int (fun _ _ => rfl))) (fun _ _ _ _ _ => se_bl)) sa_nil)) (se_callB call_lenAll o_len (by rfl) T.z_len (by decide +kernel) (sa_cons (se_var 0 (pv 0)) sa_nil)) (nomark _)))))
theorem G_is_model : FnG P w K mg base 29 T.f_is_model T.d_is_model ["value"] F_is_model :=
  fnG_mkX (k := 28) (.of T.u_is_model) sc_is_model fun cdv A outer s H E hr hgd tk =>
      (sb_cons (ss_if (PW.pt (sw_or (st_not (st_of (se_callB call_isi o_isi (by rfl) T.z_isinstance (by decide +kernel) (sa_cons (se_var 0 (pv 0)) (sa_cons (se_c (v := .ty "tuple") (pe_bltn (u := .type "tuple") (by rfl) T.z_tuple (by decide +kernel) rfl) fun _ _ _ => .ty "tuple") sa_nil))))) (sw_or (st_cmp (op_neA hr.units) o_ne (se_callB call_lenAll o_len (by rfl) T.z_len (by decide +kernel) (sa_cons (se_var 0 (pv 0)) sa_nil)) (se_c (v := .int 4) (pe_glob (by rfl) T.c_MODEL_PARTS ⟨_, rfl⟩) fun _ _ _ => .int 4) (nomark _)) (sw_or1 (st_not (st_of (se_callD (dvs := []) (fnG_gq (G_is_number T)) (hr.mono (by omega)) hgd tk (by rfl) T.g_is_number T.u_is_number.kp T.b_is_number_1 (fun _ _ _ => .nil) (gq_arity fnM_arity) (sa_cons (se_ix ix_seq o_ix (se_var 0 (pv 0)) se_int (fun _ _ => rfl)) (sa_cons (se_c (v := .int 2) (pe_glob (by rfl) T.c_LEAST_SIZE ⟨_, rfl⟩) fun _ _ _ => .int 2) (sa_cons (se_c (v := .int 6) (pe_glob (by rfl) T.c_MOST_SIZE ⟨_, rfl⟩) fun _ _ _ => .int 6) sa_nil)))))))))) (sb_one (ss_ret se_bl)) sb_nil)
      (sb_cons (ss_as (se_var 0 (pv 0)) (sg_tup rfl (sgs_cons (sg_name (pg_name (i := 1) sc_is_model.nd rfl (by first | exact Or.inl rfl | exact Or.inr rfl))) (sgs_cons (sg_name (pg_name (i := 2) sc_is_model.nd rfl (by first | exact Or.inl rfl | exact Or.inr rfl))) (sgs_cons (sg_name (pg_name (i := 3) sc_is_model.nd rfl (by first | exact Or.inl rfl | exact Or.inr rfl))) (sgs_cons (sg_name (pg_name (i := 4) sc_is_model.nd rfl (by first | exact Or.inl rfl | exact Or.inr rfl))) sgs_nil gT0_noerr) (gTc_noerr gN_noerr gT0_noerr)) (gTc_noerr gN_noerr (gTc_noerr gN_noerr gT0_noerr))) (gTc_noerr gN_noerr (gTc_noerr gN_noerr (gTc_noerr gN_noerr gT0_noerr)))) (by rfl) (gTc_len (gTc_len (gTc_len (gTc_len gT0_len)))) (gTc_noerr gN_noerr (gTc_noerr gN_noerr (gTc_noerr gN_noerr (gTc_noerr gN_noerr gT0_noerr))))))
      (sb_one (ss_ret (se_and (se_call (fnG_gq (G_are_stations T)) (hr.mono (by omega)) hgd tk (by rfl) T.g_are_stations T.u_are_stations.kp T.b_are_stations (gq_arity fnM_arity) (sa_cons (se_var 2 (pv 2)) (sa_cons (se_var 1 (pv 1)) sa_nil))) (se_and (se_call (fnG_gq (G_are_lines_of T)) (hr.mono (by omega)) hgd tk (by rfl) T.g_are_lines_of T.u_are_lines_of.kp T.b_are_lines_of (gq_arity fnM_arity) (sa_cons (se_var 3 (pv 3)) (sa_cons (se_var 2 (pv 2)) sa_nil))) (se_one (se_call (fnG_gq (G_are_firsts T)) (hr.mono (by omega)) hgd tk (by rfl) T.g_are_firsts T.u_are_firsts.kp T.b_are_firsts (gq_arity fnM_arity) (sa_cons (se_var 4 (pv 4)) (sa_cons (se_var 1 (pv 1)) (sa_cons (se_var 2 (pv 2)) (sa_cons (se_var 3 (pv 3)) sa_nil))))))))))))
theorem G_check_model : FnG P w K mg base 30 T.f_check_model T.d_check_model ["model"] F_check_model :=
  fnG_mkX (k := 29) (.of T.u_check_model) sc_check_model fun cdv A outer s H E hr hgd tk =>
      (sb_one (ss_if (st_not (st_of (se_call (fnG_gq (G_is_model T)) (hr.mono (by omega)) hgd tk (by rfl) T.g_is_model T.u_is_model.kp T.b_is_model (gq_arity fnM_arity) (sa_cons (se_var 0 (pv 0)) sa_nil)))) (sb_one ss_never) sb_nil))
theorem G_checked_station : FnG P w K mg base 31 T.f_checked_station T.d_checked_station ["model", "station"] F_checked_station :=
  fnG_mkX (k := 30) (.of T.u_checked_station) sc_checked_station fun cdv A outer s H E hr hgd tk =>
      (sb_cons (ss_expr (se_call (fnG_gq (G_check_model T)) (hr.mono (by omega)) hgd tk (by rfl) T.g_check_model T.u_check_model.kp T.b_check_model (gq_arity fnM_arity) (sa_cons (se_var 0 (pv 0)) sa_nil)))
      (sb_cons (ss_set (i := 2) sc_checked_station.nd rfl (by first | exact Or.inl rfl | exact Or.inr rfl) (se_call (fnG_gq (G_station_named T)) (hr.mono (by omega)) hgd tk (by rfl) T.g_station_named T.u_station_named.kp T.b_station_named (gq_arity fnM_arity) (sa_cons (se_ix ix_seq o_ix (se_var 0 (pv 0)) se_int (fun _ _ => rfl)) (sa_cons (se_var 1 (pv 1)) sa_nil))))
      (sb_cons (ss_if (st_cmp op_isN o_isN (se_var 2 (pv 2)) se_non (nomark _)) (sb_one ss_never) sb_nil)
      (sb_one (ss_ret (se_var 2 (pv 2)))))))
theorem G_handled : FnG P w K mg base 32 T.f_handled T.d_handled ["model", "station", "worths", "name", "it"] F_handled :=
  fnG_mkX (k := 31) (.of T.u_handled) sc_handled fun cdv A outer s H E hr hgd tk =>
      (sb_cons (ss_par (i := 5) (j := 6) rfl sc_handled.nd rfl rfl (by decide) rfl rfl (sa_cons (se_call (fnG_gq (G_checked_station T)) (hr.mono (by omega)) hgd tk (by rfl) T.g_checked_station T.u_checked_station.kp T.b_checked_station (gq_arity fnM_arity) (sa_cons (se_var 0 (pv 0)) (sa_cons (se_var 1 (pv 1)) sa_nil))) (sa_cons (se_ix ix_seq o_ix (se_var 0 (pv 0)) se_int (fun _ _ => rfl)) sa_nil)) (by rfl))
      (sb_cons (ss_if (st_not (st_of (se_call (fnG_gq (G_are_worths T)) (hr.mono (by omega)) hgd tk (by rfl) T.g_are_worths T.u_are_worths.kp T.b_are_worths (gq_arity fnM_arity) (sa_cons (se_var 2 (pv 2)) (sa_cons (se_callB call_lenAll o_len (by rfl) T.z_len (by decide +kernel) (sa_cons (se_ix ix_seq o_ix (se_var 5 (pv 5)) se_int (fun _ _ => rfl)) sa_nil)) (sa_cons (se_var 6 (pv 6)) sa_nil)))))) (sb_one ss_never) sb_nil)
      (sb_cons (ss_set (i := 7) sc_handled.nd rfl (by first | exact Or.inl rfl | exact Or.inr rfl) (se_op op_addAll o_add (se_ix ix_seq o_ix (se_var 5 (pv 5)) se_int (fun _ _ => rfl)) (se_ix ix_seq o_ix (se_var 5 (pv 5)) se_int (fun _ _ => rfl))))
      (sb_cons (ss_if (PW.pt (sw_or (st_not (st_of (se_callB call_isi o_isi (by rfl) T.z_isinstance (by decide +kernel) (sa_cons (se_var 3 (pv 3)) (sa_cons (se_c (v := .ty "str") (pe_bltn (u := .type "str") (by rfl) T.z_str (by decide +kernel) rfl) fun _ _ _ => .ty "str") sa_nil))))) (sw_or1 (st_cmp (op_notInA (units65 hr)) o_notIn (se_var 3 (pv 3)) (se_var 7 (pv 7)) (by with_unfolding_all rfl))))) (sb_one ss_never) sb_nil)
      (sb_cons (ss_if (st_not (st_of (se_callD (dvs := []) (fnG_gq (G_is_number T)) (hr.mono (by omega)) hgd tk (by rfl) T.g_is_number T.u_is_number.kp T.b_is_number_1 (fun _ _ _ => .nil) (gq_arity fnM_arity) (sa_cons (se_var 4 (pv 4)) (sa_cons se_int (sa_cons (se_if (st_cmp (op_inA (units65 hr)) o_in (se_var 3 (pv 3)) (se_ix ix_seq o_ix (se_var 5 (pv 5)) se_int (fun _ _ => rfl)) (by with_unfolding_all rfl)) se_int (se_op op_sub o_sub (se_var 6 (pv 6)) se_int)) sa_nil)))))) (sb_one ss_never) sb_nil)
      (sb_one (ss_ret (se_call (fnG_gq (G_run_station T)) (hr.mono (by omega)) hgd tk (by rfl) T.g_run_station T.u_run_station.kp T.b_run_station (gq_arity fnM_arity) (sa_cons (se_var 6 (pv 6)) (sa_cons (se_var 5 (pv 5)) (sa_cons (se_var 2 (pv 2)) (sa_cons (se_tm (name := "index") o_idxA (se_var 7 (pv 7)) (sa_cons (se_var 3 (pv 3)) sa_nil) (fun h1 h2 => pe_bmF PySem.F.slot_tuple_index PySem.F.type_tuple_index mt_tup_index h1 h2)) (sa_cons (se_var 4 (pv 4)) sa_nil)))))))))))))
theorem G_l_right : FnG P w K mg base 33 T.f_l_right T.d_l_right ["_law_pot_here"] F_l_right :=
  fnG_mkX (k := 32) (.of T.u_l_right) sc_l_right fun cdv A outer s H E hr hgd tk =>
      (sb_cons (ss_set (i := 1) sc_l_right.nd rfl (by first | exact Or.inl rfl | exact Or.inr rfl) (se_op op_addAll o_add se_int (se_call (fnG_gq (G_l_take T)) (hr.mono (by omega)) hgd tk (by rfl) T.g_l_take T.u_l_take.kp T.b_l_take (gq_arity fnM_arity) (sa_cons (se_var 0 (pv 0)) (sa_cons se_int sa_nil)))))
      (sb_cons (ss_set (i := 2) sc_l_right.nd rfl (by first | exact Or.inl rfl | exact Or.inr rfl) (se_callTy c_tuple o_tuple (by rfl) T.z_tuple (by decide +kernel) (sa_cons (se_lc (own := [("_law_turn", 15)]) rfl sc_l_right.nd (si_range1 (by rfl) T.z_range (sa_cons se_int sa_nil)) (blkOk_by (N := n_l_right) (sc := defScope (topS 60)) (by decide +kernel)) (fun _ _ _ _ _ => (sg_name (pg_name (i := 15) sc_l_right.nd rfl (by first | exact Or.inl rfl | exact Or.inr rfl)))) (fun _ _ _ _ _ => pts0) (fun _ _ _ _ _ => (se_call (fnG_gq (G_l_take T)) (hr.mono (by omega)) hgd takes0 (by rfl) T.g_l_take T.u_l_take.kp T.b_l_take (gq_arity fnM_arity) (sa_cons (se_var 0 (pv 0)) (sa_cons (se_var 1 (pv 1)) sa_nil))))) sa_nil)))
      (sb_cons (ss_set (i := 3) sc_l_right.nd rfl (by first | exact Or.inl rfl | exact Or.inr rfl) (se_call (fnG_gq (G_l_take T)) (hr.mono (by omega)) hgd tk (by rfl) T.g_l_take T.u_l_take.kp T.b_l_take (gq_arity fnM_arity) (sa_cons (se_var 0 (pv 0)) (sa_cons (se_var 1 (pv 1)) sa_nil))))
      (sb_cons (ss_set (i := 4) sc_l_right.nd rfl (by first | exact Or.inl rfl | exact Or.inr rfl) (se_disp (l := ((mC (.str (PySem.Str.ofString "m"))), (m2 ixD (mVar 2) (mC (.int 0)))) :: ((mC (.str (PySem.Str.ofString "n"))), (m2 ixD (mVar 2) (mC (.int 1)))) :: ((mC (.str (PySem.Str.ofString "o"))), (m2 ixD (mVar 2) (mC (.int 2)))) :: ((mC (.str (PySem.Str.ofString "it"))), (mVar 3)) :: []) (pps_cons se_str (se_ix ix_seq o_ix (se_var 2 (pv 2)) se_int (fun _ _ => rfl)) (pps_cons se_str (se_ix ix_seq o_ix (se_var 2 (pv 2)) se_int (fun _ _ => rfl)) (pps_cons se_str (se_ix ix_seq o_ix (se_var 2 (pv 2)) se_int (fun _ _ => rfl)) (pps_cons se_str (se_var 3 (pv 3)) pps_nil))))))
      (sb_cons (ss_setLc (i := 5) (own := [("_law_turn", 15)]) rfl sc_l_right.nd rfl rfl (sw_true rfl rfl rfl (by decide +kernel)) (si_range1 (by rfl) T.z_range (sa_cons se_int sa_nil)) (blkOk_by (N := n_l_right) (sc := defScope (topS 60)) (by decide +kernel)) (fun _ _ _ _ _ => (sg_name (pg_name (i := 15) sc_l_right.nd rfl (by first | exact Or.inl rfl | exact Or.inr rfl)))) (fun _ _ _ _ _ => pts0) (fun _ _ _ _ _ => (se_call (fnG_gq (G_l_sum T 12)) (hr.mono (by omega)) hgd takes0 (by rfl) T.g_l_sum T.u_l_sum.kp T.b_l_sum (gq_arity (A_l_sum 12)) (sa_cons (se_var 0 (pv 0)) (sa_cons (se_lst (sa_cons se_str (sa_cons se_str (sa_cons se_str (sa_cons se_str sa_nil))))) (sa_cons (se_var 1 (pv 1)) (sa_cons se_int sa_nil)))))))
      (sb_cons (ss_setLc (i := 6) (own := [("_law_e", 16)]) rfl sc_l_right.nd rfl rfl (sw_true rfl rfl rfl (by decide +kernel)) (si_any (se_var 5 (pv 5))) (blkOk_by (N := n_l_right) (sc := defScope (topS 60)) (by decide +kernel)) (fun _ _ _ _ _ => (sg_name (pg_name (i := 16) sc_l_right.nd rfl (by first | exact Or.inl rfl | exact Or.inr rfl)))) (fun _ _ _ _ _ => pts0) (fun _ _ _ _ _ => (se_op op_modN o_mod (se_callTy call_int1 o_int (by rfl) T.z_int (by decide +kernel) (sa_cons (se_call (fnG_gq (G_l_plain T 12)) (hr.mono (by omega)) hgd takes0 (by rfl) T.g_l_plain T.u_l_plain.kp T.b_l_plain (gq_arity (A_l_plain 12)) (sa_cons (se_var 16 (pv 16)) (sa_cons (se_var 4 (pv 4)) sa_nil))) sa_nil)) (se_var 1 (pv 1)))))
      (sb_cons (ss_set (i := 7) sc_l_right.nd rfl (by first | exact Or.inl rfl | exact Or.inr rfl) (se_tup (sa_cons (se_tup (sa_cons se_str (sa_cons (se_ix ix_seq o_ix (se_var 5 (pv 5)) se_int (fun _ _ => rfl)) sa_nil))) (sa_cons (se_tup (sa_cons se_str (sa_cons se_str (sa_cons (se_ix ix_seq o_ix (se_var 5 (pv 5)) se_int (fun _ _ => rfl)) sa_nil)))) (sa_cons (se_tup (sa_cons se_str (sa_cons se_str (sa_cons (se_ix ix_seq o_ix (se_var 5 (pv 5)) se_int (fun _ _ => rfl)) sa_nil)))) (sa_cons (se_tup (sa_cons se_str (sa_cons (se_ix ix_seq o_ix (se_var 5 (pv 5)) se_int (fun _ _ => rfl)) (sa_cons (se_tup (sa_cons (se_tup (sa_cons se_str (sa_cons se_int sa_nil))) sa_nil)) sa_nil)))) sa_nil))))))
      (sb_cons (ss_set (i := 7) sc_l_right.nd rfl (by first | exact Or.inl rfl | exact Or.inr rfl) (se_op op_addAll o_add (se_var 7 (pv 7)) (se_tup (sa_cons (se_tup (sa_cons se_str (sa_cons (se_tup (sa_cons se_str (sa_cons (se_ix ix_seq o_ix (se_var 5 (pv 5)) se_int (fun _ _ => rfl)) (sa_cons (se_ix ix_seq o_ix (se_var 5 (pv 5)) se_int (fun _ _ => rfl)) sa_nil)))) (sa_cons (se_tup (sa_cons (se_tup (sa_cons se_str (sa_cons se_int sa_nil))) sa_nil)) (sa_cons (se_tup (sa_cons (se_tup (sa_cons se_str (sa_cons se_int sa_nil))) sa_nil)) sa_nil))))) (sa_cons (se_tup (sa_cons se_str (sa_cons se_str (sa_cons (se_ix ix_seq o_ix (se_var 5 (pv 5)) se_int (fun _ _ => rfl)) sa_nil)))) sa_nil)))))
      (sb_cons (ss_set (i := 8) sc_l_right.nd rfl (by first | exact Or.inl rfl | exact Or.inr rfl) (se_tup (sa_cons (se_tup (sa_cons se_str (sa_cons se_str (sa_cons (se_ix ix_seq o_ix (se_var 5 (pv 5)) se_int (fun _ _ => rfl)) sa_nil)))) (sa_cons (se_tup (sa_cons se_str (sa_cons (se_tup (sa_cons se_str (sa_cons se_str (sa_cons se_str sa_nil)))) sa_nil))) (sa_cons (se_tup (sa_cons se_str (sa_cons (se_tup (sa_cons se_str (sa_cons se_str (sa_cons (se_ix ix_seq o_ix (se_var 5 (pv 5)) se_int (fun _ _ => rfl)) sa_nil)))) (sa_cons (se_tup (sa_cons (se_tup (sa_cons se_str (sa_cons se_int sa_nil))) sa_nil)) (sa_cons (se_tup (sa_cons (se_tup (sa_cons se_str (sa_cons se_int sa_nil))) sa_nil)) sa_nil))))) sa_nil)))))
      (sb_cons (ss_set (i := 9) sc_l_right.nd rfl (by first | exact Or.inl rfl | exact Or.inr rfl) (se_tup (sa_cons (se_tup (sa_cons se_str (sa_cons se_int sa_nil))) (sa_cons (se_tup (sa_cons se_str (sa_cons se_int sa_nil))) (sa_cons (se_tup (sa_cons se_str (sa_cons se_int sa_nil))) sa_nil)))))
      (sb_cons (ss_set (i := 10) sc_l_right.nd rfl (by first | exact Or.inl rfl | exact Or.inr rfl) (se_tup (sa_cons se_str (sa_cons (se_var 9 (pv 9)) (sa_cons (se_tup (sa_cons se_str (sa_cons se_str sa_nil))) (sa_cons (se_tup (sa_cons se_str sa_nil)) (sa_cons (se_tup (sa_cons se_str sa_nil)) (sa_cons (se_tup (sa_cons (se_tup sa_nil) (sa_cons (se_var 7 (pv 7)) (sa_cons (se_var 8 (pv 8)) sa_nil)))) sa_nil))))))))
      (sb_cons (ss_set (i := 11) sc_l_right.nd rfl (by first | exact Or.inl rfl | exact Or.inr rfl) (se_tup (sa_cons (se_var 1 (pv 1)) (sa_cons (se_tup (sa_cons (se_var 10 (pv 10)) sa_nil)) (sa_cons (se_tup sa_nil) (sa_cons (se_tup (sa_cons (se_tup (sa_cons se_int (sa_cons se_str (sa_cons se_str (sa_cons se_int sa_nil))))) sa_nil)) sa_nil))))))
      (sb_cons (ss_set (i := 12) sc_l_right.nd rfl (by first | exact Or.inl rfl | exact Or.inr rfl) (se_op op_addAll o_add (se_op op_addAll o_add (se_tup (sa_cons (se_ix ix_seq o_ix (se_var 6 (pv 6)) se_int (fun _ _ => rfl)) sa_nil)) (se_op op_mulB o_mulB (se_tup (sa_cons se_int sa_nil)) (se_ix ix_seq o_ix (se_var 6 (pv 6)) se_int (fun _ _ => rfl)))) (se_tup (sa_cons (se_callTy call_int1 o_int (by rfl) T.z_int (by decide +kernel) (sa_cons (se_cmp (op_ltA hr.units0) o_ord (se_ix ix_seq o_ix (se_var 6 (pv 6)) se_int (fun _ _ => rfl)) (se_ix ix_seq o_ix (se_var 6 (pv 6)) se_int (fun _ _ => rfl)) (nomark _)) sa_nil)) sa_nil))))
      (sb_cons (ss_set (i := 13) sc_l_right.nd rfl (by first | exact Or.inl rfl | exact Or.inr rfl) (se_call (fnG_gq (G_handled T)) (hr.mono (by omega)) hgd tk (by rfl) T.g_handled T.u_handled.kp T.b_handled (gq_arity fnM_arity) (sa_cons (se_var 11 (pv 11)) (sa_cons se_str (sa_cons (se_var 2 (pv 2)) (sa_cons se_str (sa_cons (se_var 3 (pv 3)) sa_nil)))))))
      (sb_cons (ss_if (st_cmp (op_neA hr.units) o_ne (se_callB (call_repr hr hgd) o_repr (by rfl) T.z_repr (by decide +kernel) (sa_cons (se_var 13 (pv 13)) sa_nil)) (se_callB (call_repr hr hgd) o_repr (by rfl) T.z_repr (by decide +kernel) (sa_cons (se_tup (sa_cons (se_op op_addAll o_add (se_tup (sa_cons (se_ix ix_seq o_ix (se_var 6 (pv 6)) se_int (fun _ _ => rfl)) sa_nil)) (se_slice (se_var 2 (pv 2)) (sp_some se_int) sp_none)) (sa_cons (se_tup (sa_cons (se_tup (sa_cons se_str (sa_cons (se_ix ix_seq o_ix (se_var 6 (pv 6)) se_int (fun _ _ => rfl)) sa_nil))) sa_nil)) (sa_cons (se_tup (sa_cons (se_tup (sa_cons se_str (sa_cons (se_ix ix_seq o_ix (se_var 6 (pv 6)) se_int (fun _ _ => rfl)) sa_nil))) sa_nil)) (sa_cons (se_var 12 (pv 12)) sa_nil))))) sa_nil)) (nomark _)) (sb_one (ss_ret se_bl)) sb_nil)
      (sb_cons (ss_as (se_ix ix_seq o_ix (se_var 6 (pv 6)) se_int (fun _ _ => rfl)) (sg_subA (units1 hr) (se_var 4 (pv 4)) se_str))
      (sb_cons (ss_set (i := 14) sc_l_right.nd rfl (by first | exact Or.inl rfl | exact Or.inr rfl) (se_callTy call_int1 o_int (by rfl) T.z_int (by decide +kernel) (sa_cons (se_cmp (op_eqA hr.units) o_eq (se_ix ix_seq o_ix (se_var 6 (pv 6)) se_int (fun _ _ => rfl)) (se_op op_modN o_mod (se_callTy call_int1 o_int (by rfl) T.z_int (by decide +kernel) (sa_cons (se_call (fnG_gq (G_l_plain T 12)) (hr.mono (by omega)) hgd tk (by rfl) T.g_l_plain T.u_l_plain.kp T.b_l_plain (gq_arity (A_l_plain 12)) (sa_cons (se_ix ix_seq o_ix (se_var 5 (pv 5)) se_int (fun _ _ => rfl)) (sa_cons (se_var 4 (pv 4)) sa_nil))) sa_nil)) (se_var 1 (pv 1))) (nomark _)) sa_nil)))
      (sb_cons (ss_set (i := 13) sc_l_right.nd rfl (by first | exact Or.inl rfl | exact Or.inr rfl) (se_call (fnG_gq (G_handled T)) (hr.mono (by omega)) hgd tk (by rfl) T.g_handled T.u_handled.kp T.b_handled (gq_arity fnM_arity) (sa_cons (se_var 11 (pv 11)) (sa_cons se_str (sa_cons (se_var 2 (pv 2)) (sa_cons se_str (sa_cons (se_var 3 (pv 3)) sa_nil)))))))
      (sb_one (ss_ret (se_cmp (op_eqA hr.units) o_eq (se_callB (call_repr hr hgd) o_repr (by rfl) T.z_repr (by decide +kernel) (sa_cons (se_var 13 (pv 13)) sa_nil)) (se_callB (call_repr hr hgd) o_repr (by rfl) T.z_repr (by decide +kernel) (sa_cons (se_tup (sa_cons (se_tup (sa_cons (se_ix ix_seq o_ix (se_var 2 (pv 2)) se_int (fun _ _ => rfl)) (sa_cons (se_ix ix_seq o_ix (se_var 6 (pv 6)) se_int (fun _ _ => rfl)) (sa_cons (se_ix ix_seq o_ix (se_var 2 (pv 2)) se_int (fun _ _ => rfl)) sa_nil)))) (sa_cons (se_tup sa_nil) (sa_cons (se_tup sa_nil) (sa_cons (se_tup (sa_cons (se_op op_modN o_mod (se_callTy call_int1 o_int (by rfl) T.z_int (by decide +kernel) (sa_cons (se_op op_mulB o_mulB se_int (se_ix ix_seq o_ix (se_var 6 (pv 6)) se_int (fun _ _ => rfl))) sa_nil)) (se_var 1 (pv 1))) (sa_cons (se_var 14 (pv 14)) sa_nil))) sa_nil))))) sa_nil)) (nomark _))))))))))))))))))))))
theorem G_law : FnG P w K mg base 34 T.f_law T.d_law ["_law_script"] F_law :=
  fnG_mkX (k := 33) (.of T.u_law) sc_law fun cdv A outer s H E hr hgd tk =>
      (sb_cons (ss_for (passes_of rfl) rfl (si_range1 (by rfl) T.z_range (sa_cons (se_callB (call_max2 rfl) o_max (by rfl) T.z_max (by decide +kernel) (sa_cons se_int (sa_cons (se_callB (call_min2 rfl) o_min (by rfl) T.z_min (by decide +kernel) (sa_cons se_int (sa_cons (se_callB call_lenAll o_len (by rfl) T.z_len (by decide +kernel) (sa_cons (se_var 0 (pv 0)) sa_nil)) sa_nil))) sa_nil))) sa_nil)) (sg_name (pg_name (i := 1) sc_law.nd rfl (by first | exact Or.inl rfl | exact Or.inr rfl))) (sb_cons (ss_set (i := 2) sc_law.nd rfl (by first | exact Or.inl rfl | exact Or.inr rfl) (se_call (fnG_gq (G_l_pot T)) (hr.mono (by omega)) hgd tk (by rfl) T.g_l_pot T.u_l_pot.kp T.b_l_pot (gq_arity fnM_arity) (sa_cons (se_var 0 (pv 0)) (sa_cons (se_var 1 (pv 1)) sa_nil))))
      (sb_one (ss_if (st_not (st_of (se_callB (cr_all rfl) o_all (by rfl) T.z_all (by decide +kernel) (sa_cons (se_lc (own := [("_law_turn", 3)]) rfl sc_law.nd (si_range1 (by rfl) T.z_range (sa_cons se_int sa_nil)) (blkOk_by (N := n_law) (sc := defScope (topS 61)) (by decide +kernel)) (fun _ _ _ _ _ => (sg_name (pg_name (i := 3) sc_law.nd rfl (by first | exact Or.inl rfl | exact Or.inr rfl)))) (fun _ _ _ _ _ => pts0) (fun _ _ _ _ _ => (se_call (fnG_gq (G_l_right T)) (hr.mono (by omega)) hgd takes0 (by rfl) T.g_l_right T.u_l_right.kp T.b_l_right (gq_arity fnM_arity) (sa_cons (se_var 2 (pv 2)) sa_nil)))) sa_nil)))) (sb_one (ss_ret se_bl)) sb_nil))))
      (sb_one (ss_ret se_bl)))
end
theorem all_mk {w : World} {K : PySem.W.Frag} {h : Heap} {mg : Str → Option Value} (X : K.In h) (G : h.Ns mainGlobals mg)
    {C_Run : Addr} (aC_Run : PySem.W.nsIn K mainGlobals "Run" = some (some (.ref C_Run))) (pg_Run : PySem.W.plainGet K C_Run Str.empty = true) (hd_Run : PySem.W.hasDictIn K C_Run = true) (po_Run : PySem.W.plainOver K C_Run = true) (sa_Run : PySem.W.findIn K (.ref C_Run) "__setattr__" = some (some (.builtin "object.__setattr__"))) (mk_Run : PySem.W.makesIn K C_Run = true) (kc_Run : PySem.W.keepIn K (.ref C_Run) = true)
    (nA_Run_run_size : PySem.W.findIn K (.ref C_Run) "run_size" = some none)
    (nA_Run_cell_book : PySem.W.findIn K (.ref C_Run) "cell_book" = some none)
    (nA_Run_letter_worth : PySem.W.findIn K (.ref C_Run) "letter_worth" = some none)
    (nA_Run_sent_list : PySem.W.findIn K (.ref C_Run) "sent_list" = some none)
    (nA_Run_alarm_book : PySem.W.findIn K (.ref C_Run) "alarm_book" = some none)
    (nA_Run_said_list : PySem.W.findIn K (.ref C_Run) "said_list" = some none)
    {f_is_number : Addr} {od_is_number an_is_number : Option Addr} {sl_is_number : Array (Option Value)} {oc_is_number kV_is_number dc_is_number pm_is_number cd_is_number ct_is_number : Value}
    {T_is_number : Addr} {tc_is_number : Value} {td_is_number : Option Addr} {tn_is_number : Nat} {ts_is_number : Array (Option Value)}
    (a_is_number : PySem.W.nsIn K mainGlobals "is_number" = some (some (.ref f_is_number)))
    (l_is_number : K.lookup f_is_number = some ⟨oc_is_number, od_is_number, .func (PySem.W.fnOf "is_number" "is_number" (defArgs (topS 19)) (defBody (topS 19)) (defScope (topS 19)) (.ref T_is_number) kV_is_number dc_is_number pm_is_number an_is_number cd_is_number ct_is_number), sl_is_number⟩)
    (x_is_number : K.lookup T_is_number = some ⟨tc_is_number, td_is_number, .seq #[.none] tn_is_number, ts_is_number⟩)
    (k1_is_number : PySem.W.codeIn K cd_is_number "is_number" = true) (k2_is_number : PySem.W.keepIn K (.ref f_is_number) = true)
    {f_is_name : Addr} {od_is_name an_is_name : Option Addr} {sl_is_name : Array (Option Value)} {oc_is_name kV_is_name dc_is_name pm_is_name cd_is_name ct_is_name : Value}
    (a_is_name : PySem.W.nsIn K mainGlobals "is_name" = some (some (.ref f_is_name)))
    (l_is_name : K.lookup f_is_name = some ⟨oc_is_name, od_is_name, .func (PySem.W.fnOf "is_name" "is_name" (defArgs (topS 20)) (defBody (topS 20)) (defScope (topS 20)) .none kV_is_name dc_is_name pm_is_name an_is_name cd_is_name ct_is_name), sl_is_name⟩)
    (k1_is_name : PySem.W.codeIn K cd_is_name "is_name" = true) (k2_is_name : PySem.W.keepIn K (.ref f_is_name) = true)
    {f_is_expression : Addr} {od_is_expression an_is_expression : Option Addr} {sl_is_expression : Array (Option Value)} {oc_is_expression kV_is_expression dc_is_expression pm_is_expression cd_is_expression ct_is_expression : Value}
    {T_is_expression : Addr} {tc_is_expression : Value} {td_is_expression : Option Addr} {tn_is_expression : Nat} {ts_is_expression : Array (Option Value)} {tt0_is_expression : Tok}
    (a_is_expression : PySem.W.nsIn K mainGlobals "is_expression" = some (some (.ref f_is_expression)))
    (l_is_expression : K.lookup f_is_expression = some ⟨oc_is_expression, od_is_expression, .func (PySem.W.fnOf "is_expression" "is_expression" (defArgs (topS 21)) (defBody (topS 21)) (defScope (topS 21)) (.ref T_is_expression) kV_is_expression dc_is_expression pm_is_expression an_is_expression cd_is_expression ct_is_expression), sl_is_expression⟩)
    (x_is_expression : K.lookup T_is_expression = some ⟨tc_is_expression, td_is_expression, .seq #[.int 3 tt0_is_expression] tn_is_expression, ts_is_expression⟩)
    (k1_is_expression : PySem.W.codeIn K cd_is_expression "is_expression" = true) (k2_is_expression : PySem.W.keepIn K (.ref f_is_expression) = true)
    {f_is_condition : Addr} {od_is_condition an_is_condition : Option Addr} {sl_is_condition : Array (Option Value)} {oc_is_condition kV_is_condition dc_is_condition pm_is_condition cd_is_condition ct_is_condition : Value}
    (a_is_condition : PySem.W.nsIn K mainGlobals "is_condition" = some (some (.ref f_is_condition)))
    (l_is_condition : K.lookup f_is_condition = some ⟨oc_is_condition, od_is_condition, .func (PySem.W.fnOf "is_condition" "is_condition" (defArgs (topS 22)) (defBody (topS 22)) (defScope (topS 22)) .none kV_is_condition dc_is_condition pm_is_condition an_is_condition cd_is_condition ct_is_condition), sl_is_condition⟩)
    (k1_is_condition : PySem.W.codeIn K cd_is_condition "is_condition" = true) (k2_is_condition : PySem.W.keepIn K (.ref f_is_condition) = true)
    {f_is_named : Addr} {od_is_named an_is_named : Option Addr} {sl_is_named : Array (Option Value)} {oc_is_named kV_is_named dc_is_named pm_is_named cd_is_named ct_is_named : Value}
    (a_is_named : PySem.W.nsIn K mainGlobals "is_named" = some (some (.ref f_is_named)))
    (l_is_named : K.lookup f_is_named = some ⟨oc_is_named, od_is_named, .func (PySem.W.fnOf "is_named" "is_named" (defArgs (topS 23)) (defBody (topS 23)) (defScope (topS 23)) .none kV_is_named dc_is_named pm_is_named an_is_named cd_is_named ct_is_named), sl_is_named⟩)
    (k1_is_named : PySem.W.codeIn K cd_is_named "is_named" = true) (k2_is_named : PySem.W.keepIn K (.ref f_is_named) = true)
    {f_is_statement : Addr} {od_is_statement an_is_statement : Option Addr} {sl_is_statement : Array (Option Value)} {oc_is_statement kV_is_statement dc_is_statement pm_is_statement cd_is_statement ct_is_statement : Value}
    (a_is_statement : PySem.W.nsIn K mainGlobals "is_statement" = some (some (.ref f_is_statement)))
    (l_is_statement : K.lookup f_is_statement = some ⟨oc_is_statement, od_is_statement, .func (PySem.W.fnOf "is_statement" "is_statement" (defArgs (topS 24)) (defBody (topS 24)) (defScope (topS 24)) .none kV_is_statement dc_is_statement pm_is_statement an_is_statement cd_is_statement ct_is_statement), sl_is_statement⟩)
    (k1_is_statement : PySem.W.codeIn K cd_is_statement "is_statement" = true) (k2_is_statement : PySem.W.keepIn K (.ref f_is_statement) = true)
    {f_is_program : Addr} {od_is_program an_is_program : Option Addr} {sl_is_program : Array (Option Value)} {oc_is_program kV_is_program dc_is_program pm_is_program cd_is_program ct_is_program : Value}
    {T_is_program : Addr} {tc_is_program : Value} {td_is_program : Option Addr} {tn_is_program : Nat} {ts_is_program : Array (Option Value)} {tt0_is_program : Tok}
    (a_is_program : PySem.W.nsIn K mainGlobals "is_program" = some (some (.ref f_is_program)))
    (l_is_program : K.lookup f_is_program = some ⟨oc_is_program, od_is_program, .func (PySem.W.fnOf "is_program" "is_program" (defArgs (topS 25)) (defBody (topS 25)) (defScope (topS 25)) (.ref T_is_program) kV_is_program dc_is_program pm_is_program an_is_program cd_is_program ct_is_program), sl_is_program⟩)
    (x_is_program : K.lookup T_is_program = some ⟨tc_is_program, td_is_program, .seq #[.int 1 tt0_is_program] tn_is_program, ts_is_program⟩)
    (k1_is_program : PySem.W.codeIn K cd_is_program "is_program" = true) (k2_is_program : PySem.W.keepIn K (.ref f_is_program) = true)
    {f_are_names : Addr} {od_are_names an_are_names : Option Addr} {sl_are_names : Array (Option Value)} {oc_are_names kV_are_names dc_are_names pm_are_names cd_are_names ct_are_names : Value}
    (a_are_names : PySem.W.nsIn K mainGlobals "are_names" = some (some (.ref f_are_names)))
    (l_are_names : K.lookup f_are_names = some ⟨oc_are_names, od_are_names, .func (PySem.W.fnOf "are_names" "are_names" (defArgs (topS 37)) (defBody (topS 37)) (defScope (topS 37)) .none kV_are_names dc_are_names pm_are_names an_are_names cd_are_names ct_are_names), sl_are_names⟩)
    (k1_are_names : PySem.W.codeIn K cd_are_names "are_names" = true) (k2_are_names : PySem.W.keepIn K (.ref f_are_names) = true)
    {f_are_cells : Addr} {od_are_cells an_are_cells : Option Addr} {sl_are_cells : Array (Option Value)} {oc_are_cells kV_are_cells dc_are_cells pm_are_cells cd_are_cells ct_are_cells : Value}
    (a_are_cells : PySem.W.nsIn K mainGlobals "are_cells" = some (some (.ref f_are_cells)))
    (l_are_cells : K.lookup f_are_cells = some ⟨oc_are_cells, od_are_cells, .func (PySem.W.fnOf "are_cells" "are_cells" (defArgs (topS 38)) (defBody (topS 38)) (defScope (topS 38)) .none kV_are_cells dc_are_cells pm_are_cells an_are_cells cd_are_cells ct_are_cells), sl_are_cells⟩)
    (k1_are_cells : PySem.W.codeIn K cd_are_cells "are_cells" = true) (k2_are_cells : PySem.W.keepIn K (.ref f_are_cells) = true)
    {f_is_station : Addr} {od_is_station an_is_station : Option Addr} {sl_is_station : Array (Option Value)} {oc_is_station kV_is_station dc_is_station pm_is_station cd_is_station ct_is_station : Value}
    (a_is_station : PySem.W.nsIn K mainGlobals "is_station" = some (some (.ref f_is_station)))
    (l_is_station : K.lookup f_is_station = some ⟨oc_is_station, od_is_station, .func (PySem.W.fnOf "is_station" "is_station" (defArgs (topS 39)) (defBody (topS 39)) (defScope (topS 39)) .none kV_is_station dc_is_station pm_is_station an_is_station cd_is_station ct_is_station), sl_is_station⟩)
    (k1_is_station : PySem.W.codeIn K cd_is_station "is_station" = true) (k2_is_station : PySem.W.keepIn K (.ref f_is_station) = true)
    {f_are_stations : Addr} {od_are_stations an_are_stations : Option Addr} {sl_are_stations : Array (Option Value)} {oc_are_stations kV_are_stations dc_are_stations pm_are_stations cd_are_stations ct_are_stations : Value}
    (a_are_stations : PySem.W.nsIn K mainGlobals "are_stations" = some (some (.ref f_are_stations)))
    (l_are_stations : K.lookup f_are_stations = some ⟨oc_are_stations, od_are_stations, .func (PySem.W.fnOf "are_stations" "are_stations" (defArgs (topS 40)) (defBody (topS 40)) (defScope (topS 40)) .none kV_are_stations dc_are_stations pm_are_stations an_are_stations cd_are_stations ct_are_stations), sl_are_stations⟩)
    (k1_are_stations : PySem.W.codeIn K cd_are_stations "are_stations" = true) (k2_are_stations : PySem.W.keepIn K (.ref f_are_stations) = true)
    {f_station_named : Addr} {od_station_named an_station_named : Option Addr} {sl_station_named : Array (Option Value)} {oc_station_named kV_station_named dc_station_named pm_station_named cd_station_named ct_station_named : Value}
    (a_station_named : PySem.W.nsIn K mainGlobals "station_named" = some (some (.ref f_station_named)))
    (l_station_named : K.lookup f_station_named = some ⟨oc_station_named, od_station_named, .func (PySem.W.fnOf "station_named" "station_named" (defArgs (topS 41)) (defBody (topS 41)) (defScope (topS 41)) .none kV_station_named dc_station_named pm_station_named an_station_named cd_station_named ct_station_named), sl_station_named⟩)
    (k1_station_named : PySem.W.codeIn K cd_station_named "station_named" = true) (k2_station_named : PySem.W.keepIn K (.ref f_station_named) = true)
    {f_is_line : Addr} {od_is_line an_is_line : Option Addr} {sl_is_line : Array (Option Value)} {oc_is_line kV_is_line dc_is_line pm_is_line cd_is_line ct_is_line : Value}
    (a_is_line : PySem.W.nsIn K mainGlobals "is_line" = some (some (.ref f_is_line)))
    (l_is_line : K.lookup f_is_line = some ⟨oc_is_line, od_is_line, .func (PySem.W.fnOf "is_line" "is_line" (defArgs (topS 42)) (defBody (topS 42)) (defScope (topS 42)) .none kV_is_line dc_is_line pm_is_line an_is_line cd_is_line ct_is_line), sl_is_line⟩)
    (k1_is_line : PySem.W.codeIn K cd_is_line "is_line" = true) (k2_is_line : PySem.W.keepIn K (.ref f_is_line) = true)
    {f_are_lines_of : Addr} {od_are_lines_of an_are_lines_of : Option Addr} {sl_are_lines_of : Array (Option Value)} {oc_are_lines_of kV_are_lines_of dc_are_lines_of pm_are_lines_of cd_are_lines_of ct_are_lines_of : Value}
    (a_are_lines_of : PySem.W.nsIn K mainGlobals "are_lines_of" = some (some (.ref f_are_lines_of)))
    (l_are_lines_of : K.lookup f_are_lines_of = some ⟨oc_are_lines_of, od_are_lines_of, .func (PySem.W.fnOf "are_lines_of" "are_lines_of" (defArgs (topS 43)) (defBody (topS 43)) (defScope (topS 43)) .none kV_are_lines_of dc_are_lines_of pm_are_lines_of an_are_lines_of cd_are_lines_of ct_are_lines_of), sl_are_lines_of⟩)
    (k1_are_lines_of : PySem.W.codeIn K cd_are_lines_of "are_lines_of" = true) (k2_are_lines_of : PySem.W.keepIn K (.ref f_are_lines_of) = true)
    {f_is_first : Addr} {od_is_first an_is_first : Option Addr} {sl_is_first : Array (Option Value)} {oc_is_first kV_is_first dc_is_first pm_is_first cd_is_first ct_is_first : Value}
    (a_is_first : PySem.W.nsIn K mainGlobals "is_first" = some (some (.ref f_is_first)))
    (l_is_first : K.lookup f_is_first = some ⟨oc_is_first, od_is_first, .func (PySem.W.fnOf "is_first" "is_first" (defArgs (topS 44)) (defBody (topS 44)) (defScope (topS 44)) .none kV_is_first dc_is_first pm_is_first an_is_first cd_is_first ct_is_first), sl_is_first⟩)
    (k1_is_first : PySem.W.codeIn K cd_is_first "is_first" = true) (k2_is_first : PySem.W.keepIn K (.ref f_is_first) = true)
    {f_are_firsts : Addr} {od_are_firsts an_are_firsts : Option Addr} {sl_are_firsts : Array (Option Value)} {oc_are_firsts kV_are_firsts dc_are_firsts pm_are_firsts cd_are_firsts ct_are_firsts : Value}
    (a_are_firsts : PySem.W.nsIn K mainGlobals "are_firsts" = some (some (.ref f_are_firsts)))
    (l_are_firsts : K.lookup f_are_firsts = some ⟨oc_are_firsts, od_are_firsts, .func (PySem.W.fnOf "are_firsts" "are_firsts" (defArgs (topS 45)) (defBody (topS 45)) (defScope (topS 45)) .none kV_are_firsts dc_are_firsts pm_are_firsts an_are_firsts cd_are_firsts ct_are_firsts), sl_are_firsts⟩)
    (k1_are_firsts : PySem.W.codeIn K cd_are_firsts "are_firsts" = true) (k2_are_firsts : PySem.W.keepIn K (.ref f_are_firsts) = true)
    {f_is_model : Addr} {od_is_model an_is_model : Option Addr} {sl_is_model : Array (Option Value)} {oc_is_model kV_is_model dc_is_model pm_is_model cd_is_model ct_is_model : Value}
    (a_is_model : PySem.W.nsIn K mainGlobals "is_model" = some (some (.ref f_is_model)))
    (l_is_model : K.lookup f_is_model = some ⟨oc_is_model, od_is_model, .func (PySem.W.fnOf "is_model" "is_model" (defArgs (topS 46)) (defBody (topS 46)) (defScope (topS 46)) .none kV_is_model dc_is_model pm_is_model an_is_model cd_is_model ct_is_model), sl_is_model⟩)
    (k1_is_model : PySem.W.codeIn K cd_is_model "is_model" = true) (k2_is_model : PySem.W.keepIn K (.ref f_is_model) = true)
    {f_check_model : Addr} {od_check_model an_check_model : Option Addr} {sl_check_model : Array (Option Value)} {oc_check_model kV_check_model dc_check_model pm_check_model cd_check_model ct_check_model : Value}
    (a_check_model : PySem.W.nsIn K mainGlobals "check_model" = some (some (.ref f_check_model)))
    (l_check_model : K.lookup f_check_model = some ⟨oc_check_model, od_check_model, .func (PySem.W.fnOf "check_model" "check_model" (defArgs (topS 47)) (defBody (topS 47)) (defScope (topS 47)) .none kV_check_model dc_check_model pm_check_model an_check_model cd_check_model ct_check_model), sl_check_model⟩)
    (k1_check_model : PySem.W.codeIn K cd_check_model "check_model" = true) (k2_check_model : PySem.W.keepIn K (.ref f_check_model) = true)
    {f_checked_station : Addr} {od_checked_station an_checked_station : Option Addr} {sl_checked_station : Array (Option Value)} {oc_checked_station kV_checked_station dc_checked_station pm_checked_station cd_checked_station ct_checked_station : Value}
    (a_checked_station : PySem.W.nsIn K mainGlobals "checked_station" = some (some (.ref f_checked_station)))
    (l_checked_station : K.lookup f_checked_station = some ⟨oc_checked_station, od_checked_station, .func (PySem.W.fnOf "checked_station" "checked_station" (defArgs (topS 48)) (defBody (topS 48)) (defScope (topS 48)) .none kV_checked_station dc_checked_station pm_checked_station an_checked_station cd_checked_station ct_checked_station), sl_checked_station⟩)
    (k1_checked_station : PySem.W.codeIn K cd_checked_station "checked_station" = true) (k2_checked_station : PySem.W.keepIn K (.ref f_checked_station) = true)
    {f_Run___init__ : Addr} {od_Run___init__ an_Run___init__ : Option Addr} {sl_Run___init__ : Array (Option Value)} {oc_Run___init__ kV_Run___init__ dc_Run___init__ pm_Run___init__ cd_Run___init__ ct_Run___init__ : Value}
    (a_Run___init__ : PySem.W.findIn K (.ref C_Run) "__init__" = some (some (.ref f_Run___init__))) (i_Run___init__ : PySem.W.isFn K (.ref f_Run___init__) = true)
    (l_Run___init__ : K.lookup f_Run___init__ = some ⟨oc_Run___init__, od_Run___init__, .func (PySem.W.fnOf "__init__" "Run.__init__" (defArgs (inClass (topS 50) 0)) (defBody (inClass (topS 50) 0)) (defScope (inClass (topS 50) 0)) .none kV_Run___init__ dc_Run___init__ pm_Run___init__ an_Run___init__ cd_Run___init__ ct_Run___init__), sl_Run___init__⟩)
    (k1_Run___init__ : PySem.W.codeIn K cd_Run___init__ "Run.__init__" = true) (k2_Run___init__ : PySem.W.keepIn K (.ref f_Run___init__) = true)
    {f_Run_reckoned : Addr} {od_Run_reckoned an_Run_reckoned : Option Addr} {sl_Run_reckoned : Array (Option Value)} {oc_Run_reckoned kV_Run_reckoned dc_Run_reckoned pm_Run_reckoned cd_Run_reckoned ct_Run_reckoned : Value}
    (a_Run_reckoned : PySem.W.findIn K (.ref C_Run) "reckoned" = some (some (.ref f_Run_reckoned))) (i_Run_reckoned : PySem.W.isFn K (.ref f_Run_reckoned) = true)
    (l_Run_reckoned : K.lookup f_Run_reckoned = some ⟨oc_Run_reckoned, od_Run_reckoned, .func (PySem.W.fnOf "reckoned" "Run.reckoned" (defArgs (inClass (topS 50) 1)) (defBody (inClass (topS 50) 1)) (defScope (inClass (topS 50) 1)) .none kV_Run_reckoned dc_Run_reckoned pm_Run_reckoned an_Run_reckoned cd_Run_reckoned ct_Run_reckoned), sl_Run_reckoned⟩)
    (k1_Run_reckoned : PySem.W.codeIn K cd_Run_reckoned "Run.reckoned" = true) (k2_Run_reckoned : PySem.W.keepIn K (.ref f_Run_reckoned) = true)
    {f_Run_is_so : Addr} {od_Run_is_so an_Run_is_so : Option Addr} {sl_Run_is_so : Array (Option Value)} {oc_Run_is_so kV_Run_is_so dc_Run_is_so pm_Run_is_so cd_Run_is_so ct_Run_is_so : Value}
    (a_Run_is_so : PySem.W.findIn K (.ref C_Run) "is_so" = some (some (.ref f_Run_is_so))) (i_Run_is_so : PySem.W.isFn K (.ref f_Run_is_so) = true)
    (l_Run_is_so : K.lookup f_Run_is_so = some ⟨oc_Run_is_so, od_Run_is_so, .func (PySem.W.fnOf "is_so" "Run.is_so" (defArgs (inClass (topS 50) 2)) (defBody (inClass (topS 50) 2)) (defScope (inClass (topS 50) 2)) .none kV_Run_is_so dc_Run_is_so pm_Run_is_so an_Run_is_so cd_Run_is_so ct_Run_is_so), sl_Run_is_so⟩)
    (k1_Run_is_so : PySem.W.codeIn K cd_Run_is_so "Run.is_so" = true) (k2_Run_is_so : PySem.W.keepIn K (.ref f_Run_is_so) = true)
    {f_Run_do_all : Addr} {od_Run_do_all an_Run_do_all : Option Addr} {sl_Run_do_all : Array (Option Value)} {oc_Run_do_all kV_Run_do_all dc_Run_do_all pm_Run_do_all cd_Run_do_all ct_Run_do_all : Value}
    (a_Run_do_all : PySem.W.findIn K (.ref C_Run) "do_all" = some (some (.ref f_Run_do_all))) (i_Run_do_all : PySem.W.isFn K (.ref f_Run_do_all) = true)
    (l_Run_do_all : K.lookup f_Run_do_all = some ⟨oc_Run_do_all, od_Run_do_all, .func (PySem.W.fnOf "do_all" "Run.do_all" (defArgs (inClass (topS 50) 3)) (defBody (inClass (topS 50) 3)) (defScope (inClass (topS 50) 3)) .none kV_Run_do_all dc_Run_do_all pm_Run_do_all an_Run_do_all cd_Run_do_all ct_Run_do_all), sl_Run_do_all⟩)
    (k1_Run_do_all : PySem.W.codeIn K cd_Run_do_all "Run.do_all" = true) (k2_Run_do_all : PySem.W.keepIn K (.ref f_Run_do_all) = true)
    {f_Run_do_one : Addr} {od_Run_do_one an_Run_do_one : Option Addr} {sl_Run_do_one : Array (Option Value)} {oc_Run_do_one kV_Run_do_one dc_Run_do_one pm_Run_do_one cd_Run_do_one ct_Run_do_one : Value}
    (a_Run_do_one : PySem.W.findIn K (.ref C_Run) "do_one" = some (some (.ref f_Run_do_one))) (i_Run_do_one : PySem.W.isFn K (.ref f_Run_do_one) = true)
    (l_Run_do_one : K.lookup f_Run_do_one = some ⟨oc_Run_do_one, od_Run_do_one, .func (PySem.W.fnOf "do_one" "Run.do_one" (defArgs (inClass (topS 50) 4)) (defBody (inClass (topS 50) 4)) (defScope (inClass (topS 50) 4)) .none kV_Run_do_one dc_Run_do_one pm_Run_do_one an_Run_do_one cd_Run_do_one ct_Run_do_one), sl_Run_do_one⟩)
    (k1_Run_do_one : PySem.W.codeIn K cd_Run_do_one "Run.do_one" = true) (k2_Run_do_one : PySem.W.keepIn K (.ref f_Run_do_one) = true)
    {f_run_station : Addr} {od_run_station an_run_station : Option Addr} {sl_run_station : Array (Option Value)} {oc_run_station kV_run_station dc_run_station pm_run_station cd_run_station ct_run_station : Value}
    (a_run_station : PySem.W.nsIn K mainGlobals "run_station" = some (some (.ref f_run_station)))
    (l_run_station : K.lookup f_run_station = some ⟨oc_run_station, od_run_station, .func (PySem.W.fnOf "run_station" "run_station" (defArgs (topS 51)) (defBody (topS 51)) (defScope (topS 51)) .none kV_run_station dc_run_station pm_run_station an_run_station cd_run_station ct_run_station), sl_run_station⟩)
    (k1_run_station : PySem.W.codeIn K cd_run_station "run_station" = true) (k2_run_station : PySem.W.keepIn K (.ref f_run_station) = true)
    {f_are_worths : Addr} {od_are_worths an_are_worths : Option Addr} {sl_are_worths : Array (Option Value)} {oc_are_worths kV_are_worths dc_are_worths pm_are_worths cd_are_worths ct_are_worths : Value}
    (a_are_worths : PySem.W.nsIn K mainGlobals "are_worths" = some (some (.ref f_are_worths)))
    (l_are_worths : K.lookup f_are_worths = some ⟨oc_are_worths, od_are_worths, .func (PySem.W.fnOf "are_worths" "are_worths" (defArgs (topS 52)) (defBody (topS 52)) (defScope (topS 52)) .none kV_are_worths dc_are_worths pm_are_worths an_are_worths cd_are_worths ct_are_worths), sl_are_worths⟩)
    (k1_are_worths : PySem.W.codeIn K cd_are_worths "are_worths" = true) (k2_are_worths : PySem.W.keepIn K (.ref f_are_worths) = true)
    {f_handled : Addr} {od_handled an_handled : Option Addr} {sl_handled : Array (Option Value)} {oc_handled kV_handled dc_handled pm_handled cd_handled ct_handled : Value}
    (a_handled : PySem.W.nsIn K mainGlobals "handled" = some (some (.ref f_handled)))
    (l_handled : K.lookup f_handled = some ⟨oc_handled, od_handled, .func (PySem.W.fnOf "handled" "handled" (defArgs (topS 53)) (defBody (topS 53)) (defScope (topS 53)) .none kV_handled dc_handled pm_handled an_handled cd_handled ct_handled), sl_handled⟩)
    (k1_handled : PySem.W.codeIn K cd_handled "handled" = true) (k2_handled : PySem.W.keepIn K (.ref f_handled) = true)
    {f_l_pot : Addr} {od_l_pot an_l_pot : Option Addr} {sl_l_pot : Array (Option Value)} {oc_l_pot kV_l_pot dc_l_pot pm_l_pot cd_l_pot ct_l_pot : Value}
    (a_l_pot : PySem.W.nsIn K mainGlobals "_law_pot" = some (some (.ref f_l_pot)))
    (l_l_pot : K.lookup f_l_pot = some ⟨oc_l_pot, od_l_pot, .func (PySem.W.fnOf "_law_pot" "_law_pot" (defArgs (topS 55)) (defBody (topS 55)) (defScope (topS 55)) .none kV_l_pot dc_l_pot pm_l_pot an_l_pot cd_l_pot ct_l_pot), sl_l_pot⟩)
    (k1_l_pot : PySem.W.codeIn K cd_l_pot "_law_pot" = true) (k2_l_pot : PySem.W.keepIn K (.ref f_l_pot) = true)
    {f_l_take : Addr} {od_l_take an_l_take : Option Addr} {sl_l_take : Array (Option Value)} {oc_l_take kV_l_take dc_l_take pm_l_take cd_l_take ct_l_take : Value}
    (a_l_take : PySem.W.nsIn K mainGlobals "_law_take" = some (some (.ref f_l_take)))
    (l_l_take : K.lookup f_l_take = some ⟨oc_l_take, od_l_take, .func (PySem.W.fnOf "_law_take" "_law_take" (defArgs (topS 56)) (defBody (topS 56)) (defScope (topS 56)) .none kV_l_take dc_l_take pm_l_take an_l_take cd_l_take ct_l_take), sl_l_take⟩)
    (k1_l_take : PySem.W.codeIn K cd_l_take "_law_take" = true) (k2_l_take : PySem.W.keepIn K (.ref f_l_take) = true)
    {f_l_of : Addr} {od_l_of an_l_of : Option Addr} {sl_l_of : Array (Option Value)} {oc_l_of kV_l_of dc_l_of pm_l_of cd_l_of ct_l_of : Value}
    (a_l_of : PySem.W.nsIn K mainGlobals "_law_of" = some (some (.ref f_l_of)))
    (l_l_of : K.lookup f_l_of = some ⟨oc_l_of, od_l_of, .func (PySem.W.fnOf "_law_of" "_law_of" (defArgs (topS 57)) (defBody (topS 57)) (defScope (topS 57)) .none kV_l_of dc_l_of pm_l_of an_l_of cd_l_of ct_l_of), sl_l_of⟩)
    (k1_l_of : PySem.W.codeIn K cd_l_of "_law_of" = true) (k2_l_of : PySem.W.keepIn K (.ref f_l_of) = true)
    {f_l_sum : Addr} {od_l_sum an_l_sum : Option Addr} {sl_l_sum : Array (Option Value)} {oc_l_sum kV_l_sum dc_l_sum pm_l_sum cd_l_sum ct_l_sum : Value}
    (a_l_sum : PySem.W.nsIn K mainGlobals "_law_sum" = some (some (.ref f_l_sum)))
    (l_l_sum : K.lookup f_l_sum = some ⟨oc_l_sum, od_l_sum, .func (PySem.W.fnOf "_law_sum" "_law_sum" (defArgs (topS 58)) (defBody (topS 58)) (defScope (topS 58)) .none kV_l_sum dc_l_sum pm_l_sum an_l_sum cd_l_sum ct_l_sum), sl_l_sum⟩)
    (k1_l_sum : PySem.W.codeIn K cd_l_sum "_law_sum" = true) (k2_l_sum : PySem.W.keepIn K (.ref f_l_sum) = true)
    {f_l_plain : Addr} {od_l_plain an_l_plain : Option Addr} {sl_l_plain : Array (Option Value)} {oc_l_plain kV_l_plain dc_l_plain pm_l_plain cd_l_plain ct_l_plain : Value}
    (a_l_plain : PySem.W.nsIn K mainGlobals "_law_plain" = some (some (.ref f_l_plain)))
    (l_l_plain : K.lookup f_l_plain = some ⟨oc_l_plain, od_l_plain, .func (PySem.W.fnOf "_law_plain" "_law_plain" (defArgs (topS 59)) (defBody (topS 59)) (defScope (topS 59)) .none kV_l_plain dc_l_plain pm_l_plain an_l_plain cd_l_plain ct_l_plain), sl_l_plain⟩)
    (k1_l_plain : PySem.W.codeIn K cd_l_plain "_law_plain" = true) (k2_l_plain : PySem.W.keepIn K (.ref f_l_plain) = true)
    {f_l_right : Addr} {od_l_right an_l_right : Option Addr} {sl_l_right : Array (Option Value)} {oc_l_right kV_l_right dc_l_right pm_l_right cd_l_right ct_l_right : Value}
    (a_l_right : PySem.W.nsIn K mainGlobals "_law_right" = some (some (.ref f_l_right)))
    (l_l_right : K.lookup f_l_right = some ⟨oc_l_right, od_l_right, .func (PySem.W.fnOf "_law_right" "_law_right" (defArgs (topS 60)) (defBody (topS 60)) (defScope (topS 60)) .none kV_l_right dc_l_right pm_l_right an_l_right cd_l_right ct_l_right), sl_l_right⟩)
    (k1_l_right : PySem.W.codeIn K cd_l_right "_law_right" = true) (k2_l_right : PySem.W.keepIn K (.ref f_l_right) = true)
    {f_law : Addr} {od_law an_law : Option Addr} {sl_law : Array (Option Value)} {oc_law kV_law dc_law pm_law cd_law ct_law : Value}
    (a_law : PySem.W.nsIn K mainGlobals "law" = some (some (.ref f_law)))
    (l_law : K.lookup f_law = some ⟨oc_law, od_law, .func (PySem.W.fnOf "law" "law" (defArgs (topS 61)) (defBody (topS 61)) (defScope (topS 61)) .none kV_law dc_law pm_law an_law cd_law ct_law), sl_law⟩)
    (k1_law : PySem.W.codeIn K cd_law "law" = true) (k2_law : PySem.W.keepIn K (.ref f_law) = true)
    (y_abs : PySem.W.nsIn K mainGlobals "abs" = some none)
    (y_all : PySem.W.nsIn K mainGlobals "all" = some none)
    (y_bool : PySem.W.nsIn K mainGlobals "bool" = some none)
    (y_int : PySem.W.nsIn K mainGlobals "int" = some none)
    (y_isinstance : PySem.W.nsIn K mainGlobals "isinstance" = some none)
    (y_len : PySem.W.nsIn K mainGlobals "len" = some none)
    (y_max : PySem.W.nsIn K mainGlobals "max" = some none)
    (y_min : PySem.W.nsIn K mainGlobals "min" = some none)
    (y_range : PySem.W.nsIn K mainGlobals "range" = some none)
    (y_repr : PySem.W.nsIn K mainGlobals "repr" = some none)
    (y_str : PySem.W.nsIn K mainGlobals "str" = some none)
    (y_tuple : PySem.W.nsIn K mainGlobals "tuple" = some none)
    (y_zip : PySem.W.nsIn K mainGlobals "zip" = some none)
    {aa_COMPARISONS : Addr} {an_COMPARISONS : Nat} {as_COMPARISONS : Array (Option Value)} {tt0_COMPARISONS : Tok} {tt1_COMPARISONS : Tok}
    (y_COMPARISONS : PySem.W.nsIn K mainGlobals "COMPARISONS" = some (some (.ref aa_COMPARISONS))) (q_COMPARISONS : K.lookup aa_COMPARISONS = some ⟨.type "tuple", none, .seq #[.str (PySem.Str.ofString "=") tt0_COMPARISONS, .str (PySem.Str.ofString "<") tt1_COMPARISONS] an_COMPARISONS, as_COMPARISONS⟩)
    {tt_DEEPEST : Tok} (y_DEEPEST : PySem.W.nsIn K mainGlobals "DEEPEST" = some (some (.int 3 tt_DEEPEST)))
    {tt_FIRST_PARTS : Tok} (y_FIRST_PARTS : PySem.W.nsIn K mainGlobals "FIRST_PARTS" = some (some (.int 4 tt_FIRST_PARTS)))
    {tt_IT : Tok} (y_IT : PySem.W.nsIn K mainGlobals "IT" = some (some (.str (PySem.Str.ofString "it") tt_IT)))
    {tt_LEAST_SIZE : Tok} (y_LEAST_SIZE : PySem.W.nsIn K mainGlobals "LEAST_SIZE" = some (some (.int 2 tt_LEAST_SIZE)))
    {tt_LETTERS : Tok} (y_LETTERS : PySem.W.nsIn K mainGlobals "LETTERS" = some (some (.str (PySem.Str.ofString "abcdefghijklmnopqrstuvwxyz") tt_LETTERS)))
    {tt_LINE_PARTS : Tok} (y_LINE_PARTS : PySem.W.nsIn K mainGlobals "LINE_PARTS" = some (some (.int 5 tt_LINE_PARTS)))
    {tt_MODEL_PARTS : Tok} (y_MODEL_PARTS : PySem.W.nsIn K mainGlobals "MODEL_PARTS" = some (some (.int 4 tt_MODEL_PARTS)))
    {tt_MOST_ALARMS : Tok} (y_MOST_ALARMS : PySem.W.nsIn K mainGlobals "MOST_ALARMS" = some (some (.int 2 tt_MOST_ALARMS)))
    {tt_MOST_DELAY : Tok} (y_MOST_DELAY : PySem.W.nsIn K mainGlobals "MOST_DELAY" = some (some (.int 20 tt_MOST_DELAY)))
    {tt_MOST_LETTERS : Tok} (y_MOST_LETTERS : PySem.W.nsIn K mainGlobals "MOST_LETTERS" = some (some (.int 8 tt_MOST_LETTERS)))
    {tt_MOST_PORTS : Tok} (y_MOST_PORTS : PySem.W.nsIn K mainGlobals "MOST_PORTS" = some (some (.int 3 tt_MOST_PORTS)))
    {tt_MOST_SIZE : Tok} (y_MOST_SIZE : PySem.W.nsIn K mainGlobals "MOST_SIZE" = some (some (.int 6 tt_MOST_SIZE)))
    {tt_MOST_STATEMENTS : Tok} (y_MOST_STATEMENTS : PySem.W.nsIn K mainGlobals "MOST_STATEMENTS" = some (some (.int 6 tt_MOST_STATEMENTS)))
    {aa_NAMED : Addr} {an_NAMED : Nat} {as_NAMED : Array (Option Value)} {tt0_NAMED : Tok} {tt1_NAMED : Tok} {tt2_NAMED : Tok}
    (y_NAMED : PySem.W.nsIn K mainGlobals "NAMED" = some (some (.ref aa_NAMED))) (q_NAMED : K.lookup aa_NAMED = some ⟨.type "tuple", none, .seq #[.str (PySem.Str.ofString "set") tt0_NAMED, .str (PySem.Str.ofString "send") tt1_NAMED, .str (PySem.Str.ofString "wait") tt2_NAMED] an_NAMED, as_NAMED⟩)
    {tt_PAIR : Tok} (y_PAIR : PySem.W.nsIn K mainGlobals "PAIR" = some (some (.int 2 tt_PAIR)))
    {aa_PARTS : Addr} {an_PARTS : Nat} {es_PARTS : Array DictEntry}
    (y_PARTS : PySem.W.nsIn K mainGlobals "PARTS" = some (some (.ref aa_PARTS))) (q_PARTS : K.lookup aa_PARTS = some ⟨.type "dict", none, .dict es_PARTS an_PARTS, #[]⟩) (o_PARTS : (aa_PARTS == sysModules) = false) (j_PARTS : PySem.W.KeysLit w.params es_PARTS.toList) (e_PARTS : EntK es_PARTS.toList kv_PARTS)
    {aa_SIGNS : Addr} {an_SIGNS : Nat} {as_SIGNS : Array (Option Value)} {tt0_SIGNS : Tok} {tt1_SIGNS : Tok} {tt2_SIGNS : Tok}
    (y_SIGNS : PySem.W.nsIn K mainGlobals "SIGNS" = some (some (.ref aa_SIGNS))) (q_SIGNS : K.lookup aa_SIGNS = some ⟨.type "tuple", none, .seq #[.str (PySem.Str.ofString "+") tt0_SIGNS, .str (PySem.Str.ofString "-") tt1_SIGNS, .str (PySem.Str.ofString "*") tt2_SIGNS] an_SIGNS, as_SIGNS⟩)
    {tt_STATION_PARTS : Tok} (y_STATION_PARTS : PySem.W.nsIn K mainGlobals "STATION_PARTS" = some (some (.int 6 tt_STATION_PARTS)))
    {tt_TRIPLE : Tok} (y_TRIPLE : PySem.W.nsIn K mainGlobals "TRIPLE" = some (some (.int 3 tt_TRIPLE)))
    (lt : ∀ ns : List Int, ns.length ≤ 63 → ∃ S, F_law [.rls (ns.map D.int)] [] = .ok (.bl true) S) {P : Program} {fa : Addr} (hfa : mg "law" = some (.ref fa))
    : ∃ (fd : FuncData) (F : List D → M D), (∀ (s : Shared) (u : Value), BindsTo s fd ⟨[u], []⟩ [("_law_script", u)]) ∧ (∀ ns : List Int, ns.length ≤ 63 → ∃ S, F [.rls (ns.map D.int)] [] = .ok (.bl true) S) ∧
        ∀ base : Heap, K.In base → base.Ns mainGlobals mg → FnG P w K mg base 34 fa fd ["_law_script"] F := by
  have uu_is_number : FunE K "is_number" "is_number" (topS 19) [.non] f_is_number _ := ⟨⟨oc_is_number, od_is_number, .ref T_is_number, kV_is_number, dc_is_number, pm_is_number, an_is_number, cd_is_number, ct_is_number, sl_is_number, rfl, l_is_number, k1_is_number, .inr ⟨by simp, T_is_number, _, [.none], tn_is_number, rfl, x_is_number, rfl, (.cons rfl .nil)⟩, .inl rfl⟩, k2_is_number⟩
  have uu_is_expression : FunE K "is_expression" "is_expression" (topS 21) [.int 3] f_is_expression _ := ⟨⟨oc_is_expression, od_is_expression, .ref T_is_expression, kV_is_expression, dc_is_expression, pm_is_expression, an_is_expression, cd_is_expression, ct_is_expression, sl_is_expression, rfl, l_is_expression, k1_is_expression, .inr ⟨by simp, T_is_expression, _, [.int 3 tt0_is_expression], tn_is_expression, rfl, x_is_expression, rfl, (.cons ⟨_, rfl⟩ .nil)⟩, .inl rfl⟩, k2_is_expression⟩
  have uu_is_program : FunE K "is_program" "is_program" (topS 25) [.int 1] f_is_program _ := ⟨⟨oc_is_program, od_is_program, .ref T_is_program, kV_is_program, dc_is_program, pm_is_program, an_is_program, cd_is_program, ct_is_program, sl_is_program, rfl, l_is_program, k1_is_program, .inr ⟨by simp, T_is_program, _, [.int 1 tt0_is_program], tn_is_program, rfl, x_is_program, rfl, (.cons ⟨_, rfl⟩ .nil)⟩, .inl rfl⟩, k2_is_program⟩
  have T : Tx w K mg := {
    f_is_number := f_is_number, d_is_number := _, u_is_number := uu_is_number, g_is_number := PySem.W.mg_of X G a_is_number,
    b_is_number_0 := uu_is_number.binds1 (ps := ["value", "least", "most"]) 2 0 (by simp) (by rfl) fun _ _ _ _ _ _ _ us its h1 h2 => match us, its, h1, h2 with | [_, _], [_], _, _ => ⟨_, rfl, rfl⟩,
    b_is_number_1 := uu_is_number.binds1 (ps := ["value", "least", "most"]) 3 1 (by simp) (by rfl) fun _ _ _ _ _ _ _ us its h1 h2 => match us, its, h1, h2 with | [_, _, _], [_], _, _ => ⟨_, rfl, rfl⟩,
    f_is_name := f_is_name, d_is_name := _, u_is_name := fun_mk (st := (topS 20)) l_is_name k1_is_name k2_is_name, g_is_name := PySem.W.mg_of X G a_is_name, b_is_name := (fun_mk (st := (topS 20)) l_is_name k1_is_name k2_is_name).binds (ps := ["value"]) fun _ _ _ _ _ _ us hl => match us, hl with | [_], _ => rfl,
    f_is_expression := f_is_expression, d_is_expression := _, u_is_expression := uu_is_expression, g_is_expression := PySem.W.mg_of X G a_is_expression,
    b_is_expression_0 := uu_is_expression.binds1 (ps := ["value", "cells", "size", "within"]) 3 0 (by simp) (by rfl) fun _ _ _ _ _ _ _ us its h1 h2 => match us, its, h1, h2 with | [_, _, _], [_], _, _ => ⟨_, rfl, rfl⟩,
    b_is_expression_1 := uu_is_expression.binds1 (ps := ["value", "cells", "size", "within"]) 4 1 (by simp) (by rfl) fun _ _ _ _ _ _ _ us its h1 h2 => match us, its, h1, h2 with | [_, _, _, _], [_], _, _ => ⟨_, rfl, rfl⟩,
    f_is_condition := f_is_condition, d_is_condition := _, u_is_condition := fun_mk (st := (topS 22)) l_is_condition k1_is_condition k2_is_condition, g_is_condition := PySem.W.mg_of X G a_is_condition, b_is_condition := (fun_mk (st := (topS 22)) l_is_condition k1_is_condition k2_is_condition).binds (ps := ["value", "cells", "size"]) fun _ _ _ _ _ _ us hl => match us, hl with | [_, _, _], _ => rfl,
    f_is_named := f_is_named, d_is_named := _, u_is_named := fun_mk (st := (topS 23)) l_is_named k1_is_named k2_is_named, g_is_named := PySem.W.mg_of X G a_is_named, b_is_named := (fun_mk (st := (topS 23)) l_is_named k1_is_named k2_is_named).binds (ps := ["value", "names"]) fun _ _ _ _ _ _ us hl => match us, hl with | [_, _], _ => rfl,
    f_is_statement := f_is_statement, d_is_statement := _, u_is_statement := fun_mk (st := (topS 24)) l_is_statement k1_is_statement k2_is_statement, g_is_statement := PySem.W.mg_of X G a_is_statement, b_is_statement := (fun_mk (st := (topS 24)) l_is_statement k1_is_statement k2_is_statement).binds (ps := ["value", "ports", "size", "depth"]) fun _ _ _ _ _ _ us hl => match us, hl with | [_, _, _, _], _ => rfl,
    f_is_program := f_is_program, d_is_program := _, u_is_program := uu_is_program, g_is_program := PySem.W.mg_of X G a_is_program,
    b_is_program_0 := uu_is_program.binds1 (ps := ["value", "ports", "size", "depth"]) 3 0 (by simp) (by rfl) fun _ _ _ _ _ _ _ us its h1 h2 => match us, its, h1, h2 with | [_, _, _], [_], _, _ => ⟨_, rfl, rfl⟩,
    b_is_program_1 := uu_is_program.binds1 (ps := ["value", "ports", "size", "depth"]) 4 1 (by simp) (by rfl) fun _ _ _ _ _ _ _ us its h1 h2 => match us, its, h1, h2 with | [_, _, _, _], [_], _, _ => ⟨_, rfl, rfl⟩,
    f_are_names := f_are_names, d_are_names := _, u_are_names := fun_mk (st := (topS 37)) l_are_names k1_are_names k2_are_names, g_are_names := PySem.W.mg_of X G a_are_names, b_are_names := (fun_mk (st := (topS 37)) l_are_names k1_are_names k2_are_names).binds (ps := ["value", "most"]) fun _ _ _ _ _ _ us hl => match us, hl with | [_, _], _ => rfl,
    f_are_cells := f_are_cells, d_are_cells := _, u_are_cells := fun_mk (st := (topS 38)) l_are_cells k1_are_cells k2_are_cells, g_are_cells := PySem.W.mg_of X G a_are_cells, b_are_cells := (fun_mk (st := (topS 38)) l_are_cells k1_are_cells k2_are_cells).binds (ps := ["value", "size"]) fun _ _ _ _ _ _ us hl => match us, hl with | [_, _], _ => rfl,
    f_is_station := f_is_station, d_is_station := _, u_is_station := fun_mk (st := (topS 39)) l_is_station k1_is_station k2_is_station, g_is_station := PySem.W.mg_of X G a_is_station, b_is_station := (fun_mk (st := (topS 39)) l_is_station k1_is_station k2_is_station).binds (ps := ["value", "size"]) fun _ _ _ _ _ _ us hl => match us, hl with | [_, _], _ => rfl,
    f_are_stations := f_are_stations, d_are_stations := _, u_are_stations := fun_mk (st := (topS 40)) l_are_stations k1_are_stations k2_are_stations, g_are_stations := PySem.W.mg_of X G a_are_stations, b_are_stations := (fun_mk (st := (topS 40)) l_are_stations k1_are_stations k2_are_stations).binds (ps := ["value", "size"]) fun _ _ _ _ _ _ us hl => match us, hl with | [_, _], _ => rfl,
    f_station_named := f_station_named, d_station_named := _, u_station_named := fun_mk (st := (topS 41)) l_station_named k1_station_named k2_station_named, g_station_named := PySem.W.mg_of X G a_station_named, b_station_named := (fun_mk (st := (topS 41)) l_station_named k1_station_named k2_station_named).binds (ps := ["stations", "name"]) fun _ _ _ _ _ _ us hl => match us, hl with | [_, _], _ => rfl,
    f_is_line := f_is_line, d_is_line := _, u_is_line := fun_mk (st := (topS 42)) l_is_line k1_is_line k2_is_line, g_is_line := PySem.W.mg_of X G a_is_line, b_is_line := (fun_mk (st := (topS 42)) l_is_line k1_is_line k2_is_line).binds (ps := ["value", "stations"]) fun _ _ _ _ _ _ us hl => match us, hl with | [_, _], _ => rfl,
    f_are_lines_of := f_are_lines_of, d_are_lines_of := _, u_are_lines_of := fun_mk (st := (topS 43)) l_are_lines_of k1_are_lines_of k2_are_lines_of, g_are_lines_of := PySem.W.mg_of X G a_are_lines_of, b_are_lines_of := (fun_mk (st := (topS 43)) l_are_lines_of k1_are_lines_of k2_are_lines_of).binds (ps := ["value", "stations"]) fun _ _ _ _ _ _ us hl => match us, hl with | [_, _], _ => rfl,
    f_is_first := f_is_first, d_is_first := _, u_is_first := fun_mk (st := (topS 44)) l_is_first k1_is_first k2_is_first, g_is_first := PySem.W.mg_of X G a_is_first, b_is_first := (fun_mk (st := (topS 44)) l_is_first k1_is_first k2_is_first).binds (ps := ["value", "size", "stations", "ends"]) fun _ _ _ _ _ _ us hl => match us, hl with | [_, _, _, _], _ => rfl,
    f_are_firsts := f_are_firsts, d_are_firsts := _, u_are_firsts := fun_mk (st := (topS 45)) l_are_firsts k1_are_firsts k2_are_firsts, g_are_firsts := PySem.W.mg_of X G a_are_firsts, b_are_firsts := (fun_mk (st := (topS 45)) l_are_firsts k1_are_firsts k2_are_firsts).binds (ps := ["value", "size", "stations", "lines"]) fun _ _ _ _ _ _ us hl => match us, hl with | [_, _, _, _], _ => rfl,
    f_is_model := f_is_model, d_is_model := _, u_is_model := fun_mk (st := (topS 46)) l_is_model k1_is_model k2_is_model, g_is_model := PySem.W.mg_of X G a_is_model, b_is_model := (fun_mk (st := (topS 46)) l_is_model k1_is_model k2_is_model).binds (ps := ["value"]) fun _ _ _ _ _ _ us hl => match us, hl with | [_], _ => rfl,
    f_check_model := f_check_model, d_check_model := _, u_check_model := fun_mk (st := (topS 47)) l_check_model k1_check_model k2_check_model, g_check_model := PySem.W.mg_of X G a_check_model, b_check_model := (fun_mk (st := (topS 47)) l_check_model k1_check_model k2_check_model).binds (ps := ["model"]) fun _ _ _ _ _ _ us hl => match us, hl with | [_], _ => rfl,
    f_checked_station := f_checked_station, d_checked_station := _, u_checked_station := fun_mk (st := (topS 48)) l_checked_station k1_checked_station k2_checked_station, g_checked_station := PySem.W.mg_of X G a_checked_station, b_checked_station := (fun_mk (st := (topS 48)) l_checked_station k1_checked_station k2_checked_station).binds (ps := ["model", "station"]) fun _ _ _ _ _ _ us hl => match us, hl with | [_, _], _ => rfl,
    f_Run___init__ := f_Run___init__, d_Run___init__ := _, u_Run___init__ := fun_mk (st := (inClass (topS 50) 0)) l_Run___init__ k1_Run___init__ k2_Run___init__, mi_Run___init__ := ⟨C_Run, aC_Run, ⟨pg_Run, hd_Run, po_Run, sa_Run⟩, ⟨a_Run___init__, i_Run___init__, k2_Run___init__⟩⟩, b_Run___init__ := (fun_mk (st := (inClass (topS 50) 0)) l_Run___init__ k1_Run___init__ k2_Run___init__).binds (ps := ["self", "size", "cells", "it"]) fun _ _ _ _ _ _ us hl => match us, hl with | [_, _, _, _], _ => rfl,
    f_Run_reckoned := f_Run_reckoned, d_Run_reckoned := _, u_Run_reckoned := fun_mk (st := (inClass (topS 50) 1)) l_Run_reckoned k1_Run_reckoned k2_Run_reckoned, mi_Run_reckoned := ⟨C_Run, aC_Run, ⟨pg_Run, hd_Run, po_Run, sa_Run⟩, ⟨a_Run_reckoned, i_Run_reckoned, k2_Run_reckoned⟩⟩, b_Run_reckoned := (fun_mk (st := (inClass (topS 50) 1)) l_Run_reckoned k1_Run_reckoned k2_Run_reckoned).binds (ps := ["self", "e"]) fun _ _ _ _ _ _ us hl => match us, hl with | [_, _], _ => rfl,
    f_Run_is_so := f_Run_is_so, d_Run_is_so := _, u_Run_is_so := fun_mk (st := (inClass (topS 50) 2)) l_Run_is_so k1_Run_is_so k2_Run_is_so, mi_Run_is_so := ⟨C_Run, aC_Run, ⟨pg_Run, hd_Run, po_Run, sa_Run⟩, ⟨a_Run_is_so, i_Run_is_so, k2_Run_is_so⟩⟩, b_Run_is_so := (fun_mk (st := (inClass (topS 50) 2)) l_Run_is_so k1_Run_is_so k2_Run_is_so).binds (ps := ["self", "condition"]) fun _ _ _ _ _ _ us hl => match us, hl with | [_, _], _ => rfl,
    f_Run_do_all := f_Run_do_all, d_Run_do_all := _, u_Run_do_all := fun_mk (st := (inClass (topS 50) 3)) l_Run_do_all k1_Run_do_all k2_Run_do_all, mi_Run_do_all := ⟨C_Run, aC_Run, ⟨pg_Run, hd_Run, po_Run, sa_Run⟩, ⟨a_Run_do_all, i_Run_do_all, k2_Run_do_all⟩⟩, b_Run_do_all := (fun_mk (st := (inClass (topS 50) 3)) l_Run_do_all k1_Run_do_all k2_Run_do_all).binds (ps := ["self", "block"]) fun _ _ _ _ _ _ us hl => match us, hl with | [_, _], _ => rfl,
    f_Run_do_one := f_Run_do_one, d_Run_do_one := _, u_Run_do_one := fun_mk (st := (inClass (topS 50) 4)) l_Run_do_one k1_Run_do_one k2_Run_do_one, mi_Run_do_one := ⟨C_Run, aC_Run, ⟨pg_Run, hd_Run, po_Run, sa_Run⟩, ⟨a_Run_do_one, i_Run_do_one, k2_Run_do_one⟩⟩, b_Run_do_one := (fun_mk (st := (inClass (topS 50) 4)) l_Run_do_one k1_Run_do_one k2_Run_do_one).binds (ps := ["self", "statement"]) fun _ _ _ _ _ _ us hl => match us, hl with | [_, _], _ => rfl,
    f_run_station := f_run_station, d_run_station := _, u_run_station := fun_mk (st := (topS 51)) l_run_station k1_run_station k2_run_station, g_run_station := PySem.W.mg_of X G a_run_station, b_run_station := (fun_mk (st := (topS 51)) l_run_station k1_run_station k2_run_station).binds (ps := ["size", "station", "worths", "rank", "it"]) fun _ _ _ _ _ _ us hl => match us, hl with | [_, _, _, _, _], _ => rfl,
    f_are_worths := f_are_worths, d_are_worths := _, u_are_worths := fun_mk (st := (topS 52)) l_are_worths k1_are_worths k2_are_worths, g_are_worths := PySem.W.mg_of X G a_are_worths, b_are_worths := (fun_mk (st := (topS 52)) l_are_worths k1_are_worths k2_are_worths).binds (ps := ["value", "many", "size"]) fun _ _ _ _ _ _ us hl => match us, hl with | [_, _, _], _ => rfl,
    f_handled := f_handled, d_handled := _, u_handled := fun_mk (st := (topS 53)) l_handled k1_handled k2_handled, g_handled := PySem.W.mg_of X G a_handled, b_handled := (fun_mk (st := (topS 53)) l_handled k1_handled k2_handled).binds (ps := ["model", "station", "worths", "name", "it"]) fun _ _ _ _ _ _ us hl => match us, hl with | [_, _, _, _, _], _ => rfl,
    f_l_pot := f_l_pot, d_l_pot := _, u_l_pot := fun_mk (st := (topS 55)) l_l_pot k1_l_pot k2_l_pot, g_l_pot := PySem.W.mg_of X G a_l_pot, b_l_pot := (fun_mk (st := (topS 55)) l_l_pot k1_l_pot k2_l_pot).binds (ps := ["_law_script", "_law_k"]) fun _ _ _ _ _ _ us hl => match us, hl with | [_, _], _ => rfl,
    f_l_take := f_l_take, d_l_take := _, u_l_take := fun_mk (st := (topS 56)) l_l_take k1_l_take k2_l_take, g_l_take := PySem.W.mg_of X G a_l_take, b_l_take := (fun_mk (st := (topS 56)) l_l_take k1_l_take k2_l_take).binds (ps := ["_law_pot_here", "_law_upto"]) fun _ _ _ _ _ _ us hl => match us, hl with | [_, _], _ => rfl,
    f_l_of := f_l_of, d_l_of := _, u_l_of := fun_mk (st := (topS 57)) l_l_of k1_l_of k2_l_of, g_l_of := PySem.W.mg_of X G a_l_of, b_l_of := (fun_mk (st := (topS 57)) l_l_of k1_l_of k2_l_of).binds (ps := ["_law_pot_here", "_law_some"]) fun _ _ _ _ _ _ us hl => match us, hl with | [_, _], _ => rfl,
    f_l_sum := f_l_sum, d_l_sum := _, u_l_sum := fun_mk (st := (topS 58)) l_l_sum k1_l_sum k2_l_sum, g_l_sum := PySem.W.mg_of X G a_l_sum, b_l_sum := (fun_mk (st := (topS 58)) l_l_sum k1_l_sum k2_l_sum).binds (ps := ["_law_pot_here", "_law_names", "_law_size", "_law_deep"]) fun _ _ _ _ _ _ us hl => match us, hl with | [_, _, _, _], _ => rfl,
    f_l_plain := f_l_plain, d_l_plain := _, u_l_plain := fun_mk (st := (topS 59)) l_l_plain k1_l_plain k2_l_plain, g_l_plain := PySem.W.mg_of X G a_l_plain, b_l_plain := (fun_mk (st := (topS 59)) l_l_plain k1_l_plain k2_l_plain).binds (ps := ["_law_e", "_law_held"]) fun _ _ _ _ _ _ us hl => match us, hl with | [_, _], _ => rfl,
    f_l_right := f_l_right, d_l_right := _, u_l_right := fun_mk (st := (topS 60)) l_l_right k1_l_right k2_l_right, g_l_right := PySem.W.mg_of X G a_l_right, b_l_right := (fun_mk (st := (topS 60)) l_l_right k1_l_right k2_l_right).binds (ps := ["_law_pot_here"]) fun _ _ _ _ _ _ us hl => match us, hl with | [_], _ => rfl,
    f_law := f_law, d_law := _, u_law := fun_mk (st := (topS 61)) l_law k1_law k2_law, g_law := PySem.W.mg_of X G a_law, b_law := (fun_mk (st := (topS 61)) l_law k1_law k2_law).binds (ps := ["_law_script"]) fun _ _ _ _ _ _ us hl => match us, hl with | [_], _ => rfl,
    C_Run := C_Run, g_Run := PySem.W.mg_of X G aC_Run, mk_Run := ⟨aC_Run, ⟨mk_Run, a_Run___init__, i_Run___init__, kc_Run⟩⟩,
    at_Run_run_size := ⟨C_Run, aC_Run, ⟨pg_Run, hd_Run, po_Run, sa_Run⟩, nA_Run_run_size⟩,
    at_Run_cell_book := ⟨C_Run, aC_Run, ⟨pg_Run, hd_Run, po_Run, sa_Run⟩, nA_Run_cell_book⟩,
    at_Run_letter_worth := ⟨C_Run, aC_Run, ⟨pg_Run, hd_Run, po_Run, sa_Run⟩, nA_Run_letter_worth⟩,
    at_Run_sent_list := ⟨C_Run, aC_Run, ⟨pg_Run, hd_Run, po_Run, sa_Run⟩, nA_Run_sent_list⟩,
    at_Run_alarm_book := ⟨C_Run, aC_Run, ⟨pg_Run, hd_Run, po_Run, sa_Run⟩, nA_Run_alarm_book⟩,
    at_Run_said_list := ⟨C_Run, aC_Run, ⟨pg_Run, hd_Run, po_Run, sa_Run⟩, nA_Run_said_list⟩,
    z_abs := PySem.W.mg_none_of X G y_abs,
    z_all := PySem.W.mg_none_of X G y_all,
    z_bool := PySem.W.mg_none_of X G y_bool,
    z_int := PySem.W.mg_none_of X G y_int,
    z_isinstance := PySem.W.mg_none_of X G y_isinstance,
    z_len := PySem.W.mg_none_of X G y_len,
    z_max := PySem.W.mg_none_of X G y_max,
    z_min := PySem.W.mg_none_of X G y_min,
    z_range := PySem.W.mg_none_of X G y_range,
    z_repr := PySem.W.mg_none_of X G y_repr,
    z_str := PySem.W.mg_none_of X G y_str,
    z_tuple := PySem.W.mg_none_of X G y_tuple,
    z_zip := PySem.W.mg_none_of X G y_zip,
    a_COMPARISONS := _, c_COMPARISONS := PySem.W.mg_of X G y_COMPARISONS, q_COMPARISONS := ⟨_, _, _, q_COMPARISONS, rfl, rfl, rfl, (by rw [sizeLine_eq]; exact Nat.le_of_ble_eq_true rfl), (.cons ⟨_, rfl⟩ (.cons ⟨_, rfl⟩ .nil))⟩,
    t_DEEPEST := _, c_DEEPEST := PySem.W.mg_of X G y_DEEPEST,
    t_FIRST_PARTS := _, c_FIRST_PARTS := PySem.W.mg_of X G y_FIRST_PARTS,
    t_IT := _, c_IT := PySem.W.mg_of X G y_IT,
    t_LEAST_SIZE := _, c_LEAST_SIZE := PySem.W.mg_of X G y_LEAST_SIZE,
    t_LETTERS := _, c_LETTERS := PySem.W.mg_of X G y_LETTERS,
    t_LINE_PARTS := _, c_LINE_PARTS := PySem.W.mg_of X G y_LINE_PARTS,
    t_MODEL_PARTS := _, c_MODEL_PARTS := PySem.W.mg_of X G y_MODEL_PARTS,
    t_MOST_ALARMS := _, c_MOST_ALARMS := PySem.W.mg_of X G y_MOST_ALARMS,
    t_MOST_DELAY := _, c_MOST_DELAY := PySem.W.mg_of X G y_MOST_DELAY,
    t_MOST_LETTERS := _, c_MOST_LETTERS := PySem.W.mg_of X G y_MOST_LETTERS,
    t_MOST_PORTS := _, c_MOST_PORTS := PySem.W.mg_of X G y_MOST_PORTS,
    t_MOST_SIZE := _, c_MOST_SIZE := PySem.W.mg_of X G y_MOST_SIZE,
    t_MOST_STATEMENTS := _, c_MOST_STATEMENTS := PySem.W.mg_of X G y_MOST_STATEMENTS,
    a_NAMED := _, c_NAMED := PySem.W.mg_of X G y_NAMED, q_NAMED := ⟨_, _, _, q_NAMED, rfl, rfl, rfl, (by rw [sizeLine_eq]; exact Nat.le_of_ble_eq_true rfl), (.cons ⟨_, rfl⟩ (.cons ⟨_, rfl⟩ (.cons ⟨_, rfl⟩ .nil)))⟩,
    t_PAIR := _, c_PAIR := PySem.W.mg_of X G y_PAIR,
    a_PARTS := _, c_PARTS := PySem.W.mg_of X G y_PARTS, q_PARTS := ⟨_, _, ⟨q_PARTS, j_PARTS, o_PARTS⟩, e_PARTS⟩,
    a_SIGNS := _, c_SIGNS := PySem.W.mg_of X G y_SIGNS, q_SIGNS := ⟨_, _, _, q_SIGNS, rfl, rfl, rfl, (by rw [sizeLine_eq]; exact Nat.le_of_ble_eq_true rfl), (.cons ⟨_, rfl⟩ (.cons ⟨_, rfl⟩ (.cons ⟨_, rfl⟩ .nil)))⟩,
    t_STATION_PARTS := _, c_STATION_PARTS := PySem.W.mg_of X G y_STATION_PARTS,
    t_TRIPLE := _, c_TRIPLE := PySem.W.mg_of X G y_TRIPLE }
  have e := hfa.symm.trans T.g_law
  cases e
  refine ⟨T.d_law, F_law, fun s u => ?_, lt, fun base _ _ => G_law T⟩
  obtain ⟨oc, od, kV, doc, pm, an, cdv, ct, osl, e, lk, hcd⟩ := T.u_law.ex
  rw [e]
  exact .of_eq rfl
end Lw
namespace Lw
open PySem PySem.Spec PyProof.Rows L2 Fa
local macro_rules | `(tactic| walk_at "ev") => `(tactic| simp only [bK_ok, bK_err, bK_bad, bnd_ap, ret_ap, fail_ap, mVar_ap, vK_some, mC_ap, m1_ap, m2_ap, k2_ap, mNil_ap, mCons_ap, kCons_ap, kCon_ap, mA_ap, mIf_ap, kIf_t, kIf_f, tOf_ap, isBl_ap, tNt_ap, kNt_ap, tAn_ap, kAn_t, kAn_f, tOr_ap, kOr_t, kOr_f, mNot_ap, kNot_ap, mAnd_ap, kAnd_t, kAnd_f, mOr_ap, kOrV_t, kOrV_f,
  sSeq_ap, sK_nx, sK_rt, sK_bk, sK_ct, sK_ex, sK_bad, oK_ok, oK_err, oK_bad, kNx_ap, kRt_ap, sEx_ap, sRet_ap, sRetN_ap, sNx_ap, sBad_ap, sIf_ap, kIfS_t, kIfS_f, gN_ap, gT_ap, gT_tt, gTc_ap, gT0_ap, sAs_ap, kAs_ap, kAs2_ok, sPar_ap, kPar_ap, gSubD_ap, kSub1_ap, kSub2_ap, kSub3_ap, fK_nx, fK_rt, fK_ex, mLM_ap, mRng1_ap, mRng2_ap, mSrc_ap, src_t, src_r, src_s, src_k,
  mChain_ap, kCh1_ap, kCh2_ap, kCh3_t, kCh3_f, mSl_ap, kSl1_ap, kSl2_ap, mSlT_ap, kTl1_ap, kTl2_ap, mP0_ap, mP_ap, intO_ap, sl_t, dfl_ap, mTM_ap, kTM_k, kTM_t, mMeth_ap, kMe1_ap, kMe2_ap, kMe3_ap, gFld_ap, kF1_ap, gSubA_ap, kSA1_ap, kSA2_ap, sPar3_ap, kPar3_ap, mkD_ap, mkR_ok, dct0D_ap, mDisp_ap, mPairs_nil, mPairs_cons, kPr1_ap, kPr2_ap, kPr3_ap, tuple_t, list_t, mZip_ap, zip_tt,
  wipeE, nc0, nc1, nc2, nc3, nc4, nc5, nc6, nc7, nc8, nc9, nc10, nc11, nc12, nc13, nc14, nc15, Int.reduceEq, Int.reduceLE, Int.reduceLT, Int.reduceSub, Int.reduceAdd,
  fnM_ap, tupD_ap, lstD_ap, le_line, Nat.reduceLeDiff, eq_self,
  add_ii, sub_ii, neg_i, lt_ii, le_ii, gt_ii, ge_ii, isN_n, isN_i, isN_t, isN_s, isN_b, isN_l, abs_i, max_ii, min_ii, int_i, int_b, len_t, len_r, eq_ii, eq_bb, eq_ss,
  List.map_cons, List.map_nil, List.cons_append, List.nil_append, List.append_nil, List.replicate_succ, List.replicate_zero, List.length_cons, List.length_nil, Nat.reduceSub, Nat.reduceAdd, Nat.sub_self, Nat.zero_add,
  List.getElem?_cons_succ, List.getElem?_cons_zero, List.set_cons_succ, List.set_cons_zero, Bool.not_true, Bool.not_false, decide_true, decide_false, if_true, if_false, reduceIte, Bool.false_eq_true])
/-! ### forms: what the looks tell -/
abbrev tx (x : String) : Str := PySem.Str.ofString x
def numP (lo : Int) (hi : Option Int) : D → Bool
  | .int i => decide (lo ≤ i) && (match hi with
    | some h => decide (i ≤ h)
    | none => true)
  | _ => false
def hiD : Option Int → D
  | some h => .int h
  | none => .non
theorem is_number_q {S : Sto} {v : D} (h : okD S v = true) (lo : Int) (hi : Option Int) : gq F_is_number [v, .int lo, hiD hi] S = .ok (.bl (numP lo hi v)) S := by
  refine gq_new0 ?_ rfl
  unfold F_is_number
  have h1 := isi_int h
  have h2 := isi_bool h
  cases v with
  | int i =>
    simp only [isNum, isBoo] at h1 h2
    cases hi with
    | none =>
      cases e : decide (lo ≤ i) <;> repeat (first | walk_at "ev" | simp only [h1, h2, hiD, numP, e, Bool.and_true])
    | some z =>
      cases e : decide (lo ≤ i) <;> repeat (first | walk_at "ev" | simp only [h1, h2, hiD, numP, e, Bool.true_and, Bool.false_and])
  | bl b =>
    simp only [isNum, isBoo] at h1 h2
    repeat (first | walk_at "ev" | simp only [h1, h2, numP])
  | _ =>
    simp only [isNum, isBoo] at h1 h2
    repeat (first | walk_at "ev" | simp only [h1, h2, numP])
theorem is_number_i {S : Sto} {v : D} (h : okD S v = true) (lo hi : Int) : gq F_is_number [v, .int lo, .int hi] S = .ok (.bl (numP lo (some hi) v)) S := is_number_q h lo (some hi)
theorem is_number_n {S : Sto} {v : D} (h : okD S v = true) (lo : Int) : gq F_is_number [v, .int lo, .non] S = .ok (.bl (numP lo none v)) S := is_number_q h lo none
def letC : List Nat := (tx "abcdefghijklmnopqrstuvwxyz").cps.toList
def nameS (z : Str) : Bool := decide (1 ≤ z.length) && decide (z.length ≤ 8) && z.cps.toList.all fun c => decide (c ∈ letC)
def nameP : D → Bool
  | .str z => nameS z
  | _ => false
def letP : D → Bool
  | .str y => match sign1 y with
    | some c => decide (c ∈ letC)
    | none => false
  | _ => false
theorem is_name_q {S : Sto} {v : D} (h : okD S v = true) : gq F_is_name [v] S = .ok (.bl (nameP v)) S := by
  have h1 := isi_str h
  cases v with
  | str z =>
    have hz : z.length ≤ 1000 := by simpa [okD] using h
    have hl := len_s S z (le_line hz)
    simp only [isStr] at h1
    cases e1 : decide ((1 : Int) ≤ z.length) with
    | false =>
      refine gq_new0 ?_ rfl
      unfold F_is_name
      have : decide (1 ≤ z.length) = false := by simp only [decide_eq_false_iff_not] at e1 ⊢; omega
      repeat (first | walk_at "ev" | simp only [h1, hl, e1, nameP, nameS, this, Bool.false_and])
    | true =>
      have t1 : decide (1 ≤ z.length) = true := by simp only [decide_eq_true_eq] at e1 ⊢; omega
      cases e2 : decide ((z.length : Int) ≤ 8) with
      | false =>
        refine gq_new0 ?_ rfl
        unfold F_is_name
        have : decide (z.length ≤ 8) = false := by simp only [decide_eq_false_iff_not] at e2 ⊢; omega
        repeat (first | walk_at "ev" | simp only [h1, hl, e1, e2, t1, nameP, nameS, this, Bool.true_and, Bool.false_and])
      | true =>
        have t2 : decide (z.length ≤ 8) = true := by simp only [decide_eq_true_eq] at e2 ⊢; omega
        refine gq_new (l := [.lst ((z.cps.toList.map fun c => D.str ⟨#[c]⟩).map fun d => .bl (letP d))]) ?_ rfl
        unfold F_is_name
        repeat (first | walk_at "ev" | simp only [h1, hl, e1, e2])
        rw [mLc_map (S0 := S) (src := .txt z) (z.cps.toList.map fun c => D.str ⟨#[c]⟩) (fun d => .bl (letP d)) rfl (by simp [turns]) (fun l i => nextD_txt z i _) (fun d hd l => by
          obtain ⟨c, _, rfl⟩ := List.mem_map.mp hd
          refine ⟨_, rfl, ?_⟩
          repeat (first | walk_at "ev" | simp only [in_sign])
          rfl) (by rw [List.length_map]; exact le_line (by simpa [Str.length] using hz))]
        repeat (first | walk_at "ev" | rw [all_at letP _ (at_end _ _)])
        have : nameP (.str z) = (z.cps.toList.map fun c => D.str ⟨#[c]⟩).all letP := by
          rw [List.all_map]
          simp only [nameP, nameS, t1, t2, Bool.true_and]
          rfl
        rw [this]
  | _ =>
    simp only [isStr] at h1
    refine gq_new0 ?_ rfl
    unfold F_is_name
    repeat (first | walk_at "ev" | simp only [h1, nameP])
def namedP (ns : List Str) : D → Bool
  | .str z => decide (z ∈ ns)
  | _ => false
theorem is_named_q {S : Sto} {v : D} (h : okD S v = true) (ns : List Str) : gq F_is_named [v, .tup (ns.map D.str)] S = .ok (.bl (namedP ns v)) S := by
  have h1 := isi_str h
  refine gq_new0 ?_ rfl
  unfold F_is_named
  cases v with
  | str z =>
    simp only [isStr] at h1
    repeat (first | walk_at "ev" | simp only [h1, in_strs, namedP])
  | _ =>
    simp only [isStr] at h1
    repeat (first | walk_at "ev" | simp only [h1, namedP])
def signs : List Str := [tx "+", tx "-", tx "*"]
def exprP (cs : List Str) (sz : Int) : Nat → D → Bool
  | _, .str z => decide (z = tx "it") || decide (z ∈ cs)
  | 0, .tup _ => false
  | k + 1, .tup [.str g, a, b] => decide (g ∈ signs) && (exprP cs sz k a && exprP cs sz k b)
  | _, .tup _ => false
  | _, v => numP 0 (some (sz - 1)) v
theorem is_expression_q (cs : List Str) (sz : Int) : ∀ (k n : Nat) {S : Sto} {v : D}, k < n → okD S v = true →
    gq (F_is_expression n) [v, .tup (cs.map D.str), .int sz, .int (k : Int)] S = .ok (.bl (exprP cs sz k v)) S := by
  intro k
  induction k with
  | zero =>
    intro n S v hn h
    obtain ⟨n, rfl⟩ : ∃ m, n = m + 1 := ⟨n - 1, by omega⟩
    have h1 := isi_str h
    have h2 := isi_tup h
    have h3 := is_number_i h 0 (sz - 1)
    refine gq_new0 ?_ rfl
    rw [F_is_expression]
    cases v with
    | str z =>
      simp only [isStr] at h1
      cases e : decide (z = tx "it") <;> repeat (first | walk_at "ev" | simp only [h1, in_strs, exprP, e, Bool.true_or, Bool.false_or])
    | tup ds =>
      simp only [isStr, isTup] at h1 h2
      repeat (first | walk_at "ev" | simp only [h1, h2, exprP, Int.ofNat_zero, Int.natCast_zero])
    | _ =>
      simp only [isStr, isTup] at h1 h2
      repeat (first | walk_at "ev" | simp only [h1, h2, h3, exprP])
  | succ k ih =>
    intro n S v hn h
    obtain ⟨n, rfl⟩ : ∃ m, n = m + 1 := ⟨n - 1, by omega⟩
    have h1 := isi_str h
    have h2 := isi_tup h
    have h3 := is_number_i h 0 (sz - 1)
    have k0 : decide (((k + 1 : Nat) : Int) = 0) = false := by simp; omega
    have k1 : ((k + 1 : Nat) : Int) - 1 = (k : Int) := by omega
    cases v with
    | str z =>
      refine gq_new0 ?_ rfl
      rw [F_is_expression]
      simp only [isStr] at h1
      cases e : decide (z = tx "it") <;> repeat (first | walk_at "ev" | simp only [h1, in_strs, exprP, e, Bool.true_or, Bool.false_or])
    | tup ds =>
      simp only [isStr, isTup] at h1 h2
      obtain ⟨hl, hd⟩ := okD_tup h
      by_cases h3l : ds.length = 3
      · match ds, h3l with
        | [g, a, b], _ =>
          have hg := isi_str (hd g (by simp))
          have x0 : ∀ S, ixD (.tup [g, a, b]) (.int 0) S = .ok g S := fun S => ix_t S rfl
          cases g with
          | str s =>
            simp only [isStr] at hg
            have hin : ∀ S, inD true (.str s) (.ktp [.str (tx "+"), .str (tx "-"), .str (tx "*")]) S = .ok (.bl (!decide (s ∈ signs))) S := fun S => in_strsK true s signs S
            cases e : decide (s ∈ signs) with
            | false =>
              refine gq_new0 ?_ rfl
              rw [F_is_expression]
              repeat (first | walk_at "ev" | simp only [h1, h2, k0, x0, hg, hin, e, exprP, Bool.false_and])
            | true =>
              obtain ⟨its, hits⟩ : ∃ its : List D, its = [a, b] := ⟨_, rfl⟩
              have hc : cutD [.str s, a, b] (some 1) none = its := by rw [hits]; rfl
              refine gq_new (l := [.lst (its.map fun d => .bl (exprP cs sz k d))]) ?_ rfl
              rw [F_is_expression]
              repeat (first | walk_at "ev" | simp only [h1, h2, k0, x0, hg, hin, e])
              rw [mLc_map (S0 := S) (src := .items its) its (fun d => .bl (exprP cs sz k d)) (by repeat (first | walk_at "ev" | simp only [hc])) rfl (fun _ _ => rfl) (fun d hd' l => by
                refine ⟨_, rfl, ?_⟩
                have : okD (S ++ l) d = true := okD_app (hd d (by rw [hits] at hd'; simp at hd'; rcases hd' with rfl | rfl <;> simp))
                have := ih n (by omega) this
                repeat (first | walk_at "ev" | simp only [k1, this])) (by rw [hits]; exact le_line (n := 2) (by decide))]
              repeat (first | walk_at "ev" | rw [all_at (exprP cs sz k) its (at_end _ _)])
              rw [hits]
              simp only [exprP, e, Bool.true_and, List.all_cons, List.all_nil, Bool.and_true]
          | _ =>
            simp only [isStr] at hg
            refine gq_new0 ?_ rfl
            rw [F_is_expression]
            repeat (first | walk_at "ev" | simp only [h1, h2, k0, x0, hg, exprP])
      · refine gq_new0 ?_ rfl
        rw [F_is_expression]
        have e3 : decide ((ds.length : Int) = 3) = false := by simp; omega
        have : exprP cs sz (k + 1) (.tup ds) = false := by
          unfold exprP
          split <;> simp_all
        repeat (first | walk_at "ev" | simp only [h1, h2, k0, e3, this])
    | _ =>
      refine gq_new0 ?_ rfl
      rw [F_is_expression]
      simp only [isStr, isTup] at h1 h2
      repeat (first | walk_at "ev" | simp only [h1, h2, h3, exprP])
end Lw
namespace Lw
open PySem PySem.Spec PyProof.Rows L2 Fa
local macro_rules | `(tactic| walk_at "ev") => `(tactic| simp only [bK_ok, bK_err, bK_bad, bnd_ap, ret_ap, fail_ap, mVar_ap, vK_some, mC_ap, m1_ap, m2_ap, k2_ap, mNil_ap, mCons_ap, kCons_ap, kCon_ap, mA_ap, mIf_ap, kIf_t, kIf_f, tOf_ap, isBl_ap, tNt_ap, kNt_ap, tAn_ap, kAn_t, kAn_f, tOr_ap, kOr_t, kOr_f, mNot_ap, kNot_ap, mAnd_ap, kAnd_t, kAnd_f, mOr_ap, kOrV_t, kOrV_f,
  sSeq_ap, sK_nx, sK_rt, sK_bk, sK_ct, sK_ex, sK_bad, oK_ok, oK_err, oK_bad, kNx_ap, kRt_ap, sEx_ap, sRet_ap, sRetN_ap, sNx_ap, sBad_ap, sIf_ap, kIfS_t, kIfS_f, gN_ap, gT_ap, gT_tt, gTc_ap, gT0_ap, sAs_ap, kAs_ap, kAs2_ok, sPar_ap, kPar_ap, gSubD_ap, kSub1_ap, kSub2_ap, kSub3_ap, fK_nx, fK_rt, fK_ex, mLM_ap, mRng1_ap, mRng2_ap, mSrc_ap, src_t, src_r, src_s, src_k,
  mChain_ap, kCh1_ap, kCh2_ap, kCh3_t, kCh3_f, mSl_ap, kSl1_ap, kSl2_ap, mSlT_ap, kTl1_ap, kTl2_ap, mP0_ap, mP_ap, intO_ap, sl_t, dfl_ap, mTM_ap, kTM_k, kTM_t, mMeth_ap, kMe1_ap, kMe2_ap, kMe3_ap, gFld_ap, kF1_ap, gSubA_ap, kSA1_ap, kSA2_ap, sPar3_ap, kPar3_ap, mkD_ap, mkR_ok, dct0D_ap, mDisp_ap, mPairs_nil, mPairs_cons, kPr1_ap, kPr2_ap, kPr3_ap, tuple_t, list_t, mZip_ap, zip_tt,
  wipeE, nc0, nc1, nc2, nc3, nc4, nc5, nc6, nc7, nc8, nc9, nc10, nc11, nc12, nc13, nc14, nc15, Int.reduceEq, Int.reduceLE, Int.reduceLT, Int.reduceSub, Int.reduceAdd,
  fnM_ap, tupD_ap, lstD_ap, le_line, Nat.reduceLeDiff, eq_self,
  add_ii, sub_ii, neg_i, lt_ii, le_ii, gt_ii, ge_ii, isN_n, isN_i, isN_t, isN_s, isN_b, isN_l, abs_i, max_ii, min_ii, int_i, int_b, len_t, len_r, eq_ii, eq_bb, eq_ss,
  List.map_cons, List.map_nil, List.cons_append, List.nil_append, List.append_nil, List.replicate_succ, List.replicate_zero, List.length_cons, List.length_nil, Nat.reduceSub, Nat.reduceAdd, Nat.sub_self, Nat.zero_add,
  List.getElem?_cons_succ, List.getElem?_cons_zero, List.set_cons_succ, List.set_cons_zero, Bool.not_true, Bool.not_false, decide_true, decide_false, if_true, if_false, reduceIte, Bool.false_eq_true])
def tests : List Str := [tx "=", tx "<"]
def condP (cs : List Str) (sz : Int) : D → Bool
  | .tup [.str g, a, b] => decide (g ∈ tests) && (exprP cs sz 3 a && exprP cs sz 3 b)
  | _ => false
theorem is_expression_3 (cs : List Str) (sz : Int) {S : Sto} {v : D} (h : okD S v = true) : gq (F_is_expression 12) [v, .tup (cs.map D.str), .int sz, .int 3] S = .ok (.bl (exprP cs sz 3 v)) S := is_expression_q cs sz 3 12 (by decide) h
theorem is_condition_q (cs : List Str) (sz : Int) {S : Sto} {v : D} (h : okD S v = true) : gq F_is_condition [v, .tup (cs.map D.str), .int sz] S = .ok (.bl (condP cs sz v)) S := by
  have h2 := isi_tup h
  cases v with
  | tup ds =>
    simp only [isTup] at h2
    obtain ⟨hl, hd⟩ := okD_tup h
    by_cases h3l : ds.length = 3
    · match ds, h3l with
      | [g, a, b], _ =>
        have hg := isi_str (hd g (by simp))
        have x0 : ∀ S, ixD (.tup [g, a, b]) (.int 0) S = .ok g S := fun S => ix_t S rfl
        cases g with
        | str s =>
          simp only [isStr] at hg
          have hin : ∀ S, inD false (.str s) (.ktp [.str (tx "="), .str (tx "<")]) S = .ok (.bl (decide (s ∈ tests))) S := fun S => in_strsK false s tests S
          cases e : decide (s ∈ tests) with
          | false =>
            refine gq_new0 ?_ rfl
            unfold F_is_condition
            repeat (first | walk_at "ev" | simp only [h2, x0, hg, hin, e, condP, Bool.false_and])
          | true =>
            obtain ⟨its, hits⟩ : ∃ its : List D, its = [a, b] := ⟨_, rfl⟩
            have hc : cutD [.str s, a, b] (some 1) none = its := by rw [hits]; rfl
            refine gq_new (l := [.lst (its.map fun d => .bl (exprP cs sz 3 d))]) ?_ rfl
            unfold F_is_condition
            repeat (first | walk_at "ev" | simp only [h2, x0, hg, hin, e])
            rw [mLc_map (S0 := S) (src := .items its) its (fun d => .bl (exprP cs sz 3 d)) (by repeat (first | walk_at "ev" | simp only [hc])) rfl (fun _ _ => rfl) (fun d hd' l => by
              refine ⟨_, rfl, ?_⟩
              have : okD (S ++ l) d = true := okD_app (hd d (by rw [hits] at hd'; simp at hd'; rcases hd' with rfl | rfl <;> simp))
              have := is_expression_3 cs sz this
              repeat (first | walk_at "ev" | simp only [this])) (by rw [hits]; exact le_line (n := 2) (by decide))]
            repeat (first | walk_at "ev" | rw [all_at (exprP cs sz 3) its (at_end _ _)])
            rw [hits]
            simp only [condP, e, Bool.true_and, List.all_cons, List.all_nil, Bool.and_true]
        | _ =>
          simp only [isStr] at hg
          refine gq_new0 ?_ rfl
          unfold F_is_condition
          repeat (first | walk_at "ev" | simp only [h2, x0, hg, condP])
    · refine gq_new0 ?_ rfl
      unfold F_is_condition
      have e3 : decide ((ds.length : Int) = 3) = false := by simp; omega
      have : condP cs sz (.tup ds) = false := by
        unfold condP
        split <;> simp_all
      repeat (first | walk_at "ev" | simp only [h2, e3, this])
  | _ =>
    refine gq_new0 ?_ rfl
    unfold F_is_condition
    simp only [isTup] at h2
    repeat (first | walk_at "ev" | simp only [h2, condP])
structure Ports where
  cs : List Str
  outs : List Str
  als : List Str
def Ports.d (P : Ports) : D := .tup [.tup (P.cs.map D.str), .tup (P.outs.map D.str), .tup (P.als.map D.str)]
/-- a statement; pr tells of blocks, none where there are none -/
def stmtP (P : Ports) (sz : Int) (pr : Option (D → Bool)) : D → Bool
  | .tup [.str w, a] => if w = tx "drop" then namedP P.als a else if w = tx "say" then exprP P.cs sz 3 a else false
  | .tup [.str w, a, e] => if w = tx "set" then namedP P.cs a && exprP P.cs sz 3 e else if w = tx "send" then namedP P.outs a && exprP P.cs sz 3 e else if w = tx "wait" then namedP P.als a && exprP P.cs sz 3 e
      else if w = tx "repeat" then (match pr with
        | some p => exprP P.cs sz 3 a && p e
        | none => false) else false
  | .tup [.str w, c, x, y] => if w = tx "if" then (match pr with
        | some p => condP P.cs sz c && (p x && p y)
        | none => false) else false
  | _ => false
/-- so many levels are left below -/
def progP (P : Ports) (sz : Int) : Nat → D → Bool
  | 0, .tup ds => decide (ds.length ≤ 6) && ds.all (stmtP P sz none)
  | k + 1, .tup ds => decide (ds.length ≤ 6) && ds.all (stmtP P sz (some (progP P sz k)))
  | _, _ => false
def below (P : Ports) (sz : Int) : Nat → Option (D → Bool)
  | 0 => none
  | k + 1 => some (progP P sz k)
theorem progP_tup (P : Ports) (sz : Int) (k : Nat) (ds : List D) : progP P sz k (.tup ds) = (decide (ds.length ≤ 6) && ds.all (stmtP P sz (below P sz k))) := by
  cases k <;> rfl
theorem kget_w (w : Str) (S : Sto) : kget kd_PARTS [.str w, .int 0] S = .ok (((kd_PARTS.lookup w).getD (.int 0))) S := id rfl
end Lw
namespace Lw
open PySem PySem.Spec PyProof.Rows L2 Fa
local macro_rules | `(tactic| walk_at "ev") => `(tactic| simp only [bK_ok, bK_err, bK_bad, bnd_ap, ret_ap, fail_ap, mVar_ap, vK_some, mC_ap, m1_ap, m2_ap, k2_ap, mNil_ap, mCons_ap, kCons_ap, kCon_ap, mA_ap, mIf_ap, kIf_t, kIf_f, tOf_ap, isBl_ap, tNt_ap, kNt_ap, tAn_ap, kAn_t, kAn_f, tOr_ap, kOr_t, kOr_f, mNot_ap, kNot_ap, mAnd_ap, kAnd_t, kAnd_f, mOr_ap, kOrV_t, kOrV_f,
  sSeq_ap, sK_nx, sK_rt, sK_bk, sK_ct, sK_ex, sK_bad, oK_ok, oK_err, oK_bad, kNx_ap, kRt_ap, sEx_ap, sRet_ap, sRetN_ap, sNx_ap, sBad_ap, sIf_ap, kIfS_t, kIfS_f, gN_ap, gT_ap, gT_tt, gTc_ap, gT0_ap, sAs_ap, kAs_ap, kAs2_ok, sPar_ap, kPar_ap, gSubD_ap, kSub1_ap, kSub2_ap, kSub3_ap, fK_nx, fK_rt, fK_ex, mLM_ap, mRng1_ap, mRng2_ap, mSrc_ap, src_t, src_r, src_s, src_k,
  mChain_ap, kCh1_ap, kCh2_ap, kCh3_t, kCh3_f, mSl_ap, kSl1_ap, kSl2_ap, mSlT_ap, kTl1_ap, kTl2_ap, mP0_ap, mP_ap, intO_ap, sl_t, dfl_ap, mTM_ap, kTM_k, kTM_t, mMeth_ap, kMe1_ap, kMe2_ap, kMe3_ap, gFld_ap, kF1_ap, gSubA_ap, kSA1_ap, kSA2_ap, sPar3_ap, kPar3_ap, mkD_ap, mkR_ok, dct0D_ap, mDisp_ap, mPairs_nil, mPairs_cons, kPr1_ap, kPr2_ap, kPr3_ap, tuple_t, list_t, mZip_ap, zip_tt,
  wipeE, nc0, nc1, nc2, nc3, nc4, nc5, nc6, nc7, nc8, nc9, nc10, nc11, nc12, nc13, nc14, nc15, Int.reduceEq, Int.reduceLE, Int.reduceLT, Int.reduceSub, Int.reduceAdd,
  fnM_ap, tupD_ap, lstD_ap, le_line, Nat.reduceLeDiff, eq_self,
  add_ii, sub_ii, neg_i, lt_ii, le_ii, gt_ii, ge_ii, isN_n, isN_i, isN_t, isN_s, isN_b, isN_l, abs_i, max_ii, min_ii, int_i, int_b, len_t, len_r, eq_ii, eq_bb, eq_ss,
  List.map_cons, List.map_nil, List.cons_append, List.nil_append, List.append_nil, List.replicate_succ, List.replicate_zero, List.length_cons, List.length_nil, Nat.reduceSub, Nat.reduceAdd, Nat.sub_self, Nat.zero_add,
  List.getElem?_cons_succ, List.getElem?_cons_zero, List.set_cons_succ, List.set_cons_zero, Bool.not_true, Bool.not_false, decide_true, decide_false, if_true, if_false, reduceIte, Bool.false_eq_true])
theorem strW : kd_PARTS = [(tx "set", .int 3), (tx "send", .int 3), (tx "wait", .int 3), (tx "drop", .int 2), (tx "say", .int 2), (tx "if", .int 4), (tx "repeat", .int 3)] := rfl
def wordsN : List (Str × Nat) := [(tx "set", 3), (tx "send", 3), (tx "wait", 3), (tx "drop", 2), (tx "say", 2), (tx "if", 4), (tx "repeat", 3)]
def manyOf (w : Str) : Nat := (wordsN.lookup w).getD 0
theorem kget_many (w : Str) (S : Sto) : kget kd_PARTS [.str w, .int 0] S = .ok (.int (manyOf w)) S := by
  rw [kget_w]
  congr 1
  rw [strW]
  unfold manyOf wordsN
  simp only [List.lookup_cons, List.lookup_nil]
  repeat (split <;> first | rfl | skip)
def namedW : List Str := [tx "set", tx "send", tx "wait"]
theorem in_named (w : Str) (S : Sto) : inD false (.str w) (.ktp [.str (tx "set"), .str (tx "send"), .str (tx "wait")]) S = .ok (.bl (decide (w ∈ namedW))) S := in_strsK false w namedW S
theorem manyOf_cases (w : Str) : manyOf w = 0 ∨ (w = tx "set" ∨ w = tx "send" ∨ w = tx "wait" ∨ w = tx "repeat") ∧ manyOf w = 3 ∨ (w = tx "drop" ∨ w = tx "say") ∧ manyOf w = 2 ∨ w = tx "if" ∧ manyOf w = 4 := by
  have go : ∀ (a b : Str), (a == b) = true → a = b := fun a b h => eq_of_beq h
  unfold manyOf wordsN
  simp only [List.lookup_cons, List.lookup_nil]
  split
  · rename_i h; exact .inr (.inl ⟨.inl (go _ _ h), rfl⟩)
  split
  · rename_i h; exact .inr (.inl ⟨.inr (.inl (go _ _ h)), rfl⟩)
  split
  · rename_i h; exact .inr (.inl ⟨.inr (.inr (.inl (go _ _ h))), rfl⟩)
  split
  · rename_i h; exact .inr (.inr (.inl ⟨.inl (go _ _ h), rfl⟩))
  split
  · rename_i h; exact .inr (.inr (.inl ⟨.inr (go _ _ h), rfl⟩))
  split
  · rename_i h; exact .inr (.inr (.inr ⟨go _ _ h, rfl⟩))
  split
  · rename_i h; exact .inr (.inl ⟨.inr (.inr (.inr (go _ _ h))), rfl⟩)
  · exact .inl rfl
theorem many_set : manyOf (tx "set") = 3 := by decide +kernel
theorem many_send : manyOf (tx "send") = 3 := by decide +kernel
theorem many_wait : manyOf (tx "wait") = 3 := by decide +kernel
theorem many_repeat : manyOf (tx "repeat") = 3 := by decide +kernel
theorem many_drop : manyOf (tx "drop") = 2 := by decide +kernel
theorem many_say : manyOf (tx "say") = 2 := by decide +kernel
theorem many_if : manyOf (tx "if") = 4 := by decide +kernel
theorem stmtP_many (P : Ports) (sz : Int) (pr : Option (D → Bool)) (w : Str) (rest : List D) (h : manyOf w ≠ rest.length + 1) : stmtP P sz pr (.tup (.str w :: rest)) = false := by
  have f : ∀ x : Str, w = x → manyOf x ≠ rest.length + 1 := fun x e => e ▸ h
  match rest, h, f with
  | [], _, _ => rfl
  | [a], _, f =>
    have n1 : w ≠ tx "drop" := fun e => f _ e many_drop
    have n2 : w ≠ tx "say" := fun e => f _ e many_say
    simp only [stmtP, if_neg n1, if_neg n2]
  | [a, b], _, f =>
    have n1 : w ≠ tx "set" := fun e => f _ e many_set
    have n2 : w ≠ tx "send" := fun e => f _ e many_send
    have n3 : w ≠ tx "wait" := fun e => f _ e many_wait
    have n4 : w ≠ tx "repeat" := fun e => f _ e many_repeat
    simp only [stmtP, if_neg n1, if_neg n2, if_neg n3, if_neg n4]
  | [a, b, c], _, f =>
    have n1 : w ≠ tx "if" := fun e => f _ e many_if
    simp only [stmtP, if_neg n1]
  | a :: b :: c :: d :: r, _, _ => rfl
theorem w1 : decide (tx "say" = tx "drop") = false := by decide +kernel
theorem w2 : decide (tx "set" = tx "drop") = false := by decide +kernel
theorem w3 : decide (tx "send" = tx "drop") = false := by decide +kernel
theorem w4 : decide (tx "wait" = tx "drop") = false := by decide +kernel
theorem w5 : decide (tx "if" = tx "drop") = false := by decide +kernel
theorem w6 : decide (tx "repeat" = tx "drop") = false := by decide +kernel
theorem w7 : decide (tx "set" = tx "say") = false := by decide +kernel
theorem w8 : decide (tx "send" = tx "say") = false := by decide +kernel
theorem w9 : decide (tx "wait" = tx "say") = false := by decide +kernel
theorem w10 : decide (tx "if" = tx "say") = false := by decide +kernel
theorem w11 : decide (tx "repeat" = tx "say") = false := by decide +kernel
theorem w12 : decide (tx "if" = tx "repeat") = false := by decide +kernel
theorem w13 : decide (tx "set" ∈ namedW) = true := by decide +kernel
theorem w14 : decide (tx "send" ∈ namedW) = true := by decide +kernel
theorem w15 : decide (tx "wait" ∈ namedW) = true := by decide +kernel
theorem w16 : decide (tx "if" ∈ namedW) = false := by decide +kernel
theorem w17 : decide (tx "repeat" ∈ namedW) = false := by decide +kernel
theorem ixn1 (S : Sto) : idxA (.ktp [.str (tx "set"), .str (tx "send"), .str (tx "wait")]) [.str (tx "set")] S = .ok (.int 0) S := idx_k (j := 0) S (by decide +kernel)
theorem ixn2 (S : Sto) : idxA (.ktp [.str (tx "set"), .str (tx "send"), .str (tx "wait")]) [.str (tx "send")] S = .ok (.int 1) S := idx_k (j := 1) S (by decide +kernel)
theorem ixn3 (S : Sto) : idxA (.ktp [.str (tx "set"), .str (tx "send"), .str (tx "wait")]) [.str (tx "wait")] S = .ok (.int 2) S := idx_k (j := 2) S (by decide +kernel)
theorem gT_P (P : Ports) (k : List D → Fa.Env → M Fa.Env) (r : Fa.Env) (S : Sto) : gT k P.d r S = k [.tup (P.cs.map D.str), .tup (P.outs.map D.str), .tup (P.als.map D.str)] r S := id rfl
theorem stmt_step (P : Ports) (sz : Int) (k n : Nat) (hk : k ≤ 2) (ih : ∀ j, k = j + 1 → ∀ {S : Sto} {v : D}, okD S v = true → gq (F_is_program n) [v, P.d, .int sz, .int (3 - (j : Int))] S = .ok (.bl (progP P sz j v)) S)
    {S : Sto} {v : D} (h : okD S v = true) : gq (F_is_statement (n + 1)) [v, P.d, .int sz, .int (3 - (k : Int))] S = .ok (.bl (stmtP P sz (below P sz k) v)) S := by
  have h2 := isi_tup h
  have kd : decide ((3 : Int) ≤ 3 - (k : Int)) = decide (k = 0) := by
    by_cases h0 : k = 0
    · simp [h0]
    · simp [h0]; omega
  cases v with
  | tup ds =>
    simp only [isTup] at h2
    obtain ⟨hl, hd⟩ := okD_tup h
    cases ds with
    | nil =>
      refine gq_new0 ?_ rfl
      rw [F_is_statement]
      repeat (first | walk_at "ev" | simp only [h2, eqE_t, List.isEmpty_nil, stmtP])
    | cons g rest =>
      have hg := isi_str (hd g (by simp))
      have x0 : ∀ S, ixD (.tup (g :: rest)) (.int 0) S = .ok g S := fun S => ix_tn (k := 0) S rfl
      cases g with
      | str w =>
        simp only [isStr] at hg
        have hln : ∀ S, lenD [.tup (.str w :: rest)] S = .ok (.int ((rest.length + 1 : Nat) : Int)) S := fun S => len_t S _
        by_cases hm : manyOf w = rest.length + 1
        · have e1 : decide (((manyOf w : Nat) : Int) = ((rest.length + 1 : Nat) : Int)) = true := by rw [hm]; simp
          have p0 : ∀ S, ixD P.d (.int 0) S = .ok (.tup (P.cs.map D.str)) S := fun S => ix_t S rfl
          have p1 : ∀ S, ixD P.d (.int 1) S = .ok (.tup (P.outs.map D.str)) S := fun S => ix_t S rfl
          have p2 : ∀ S, ixD P.d (.int 2) S = .ok (.tup (P.als.map D.str)) S := fun S => ix_t S rfl
          rcases manyOf_cases w with h0 | ⟨hw, h3⟩ | ⟨hw, h3⟩ | ⟨hw, h3⟩
          · omega
          · have hr : rest.length = 2 := by omega
            match rest, hr with
            | [a, b], _ =>
              have x1 : ∀ S, ixD (.tup [.str w, a, b]) (.int 1) S = .ok a S := fun S => ix_t S rfl
              have x2 : ∀ S, ixD (.tup [.str w, a, b]) (.int 2) S = .ok b S := fun S => ix_t S rfl
              have oa := hd a (by simp)
              have ob := hd b (by simp)
              have n1 := is_named_q oa P.cs
              have n2 := is_named_q oa P.outs
              have n3 := is_named_q oa P.als
              have q1 := is_expression_3 P.cs sz oa
              have q2 := is_expression_3 P.cs sz ob
              rcases hw with rfl | rfl | rfl | rfl
              · refine gq_new0 ?_ rfl
                rw [F_is_statement]
                cases e : namedP P.cs a <;> repeat (first | walk_at "ev" | simp only [h2, eqE_t, List.isEmpty_cons, gT_P, x0, x1, x2, p0, hg, kget_many, many_set, w2, w7, in_named, w13, ixn1, n1, q2, e, stmtP, Bool.true_and, Bool.false_and])
              · refine gq_new0 ?_ rfl
                rw [F_is_statement]
                have z : ¬ tx "send" = tx "set" := by decide +kernel
                cases e : namedP P.outs a <;> repeat (first | walk_at "ev" | simp only [h2, eqE_t, List.isEmpty_cons, gT_P, x0, x1, x2, p1, hg, kget_many, many_send, w3, w8, in_named, w14, ixn2, n2, q2, e, stmtP, if_neg z, Bool.true_and, Bool.false_and])
              · refine gq_new0 ?_ rfl
                rw [F_is_statement]
                have z : ¬ tx "wait" = tx "set" := by decide +kernel
                have z2 : ¬ tx "wait" = tx "send" := by decide +kernel
                cases e : namedP P.als a <;> repeat (first | walk_at "ev" | simp only [h2, eqE_t, List.isEmpty_cons, gT_P, x0, x1, x2, p2, hg, kget_many, many_wait, w4, w9, in_named, w15, ixn3, n3, q2, e, stmtP, if_neg z, if_neg z2, Bool.true_and, Bool.false_and])
              · have z : ¬ tx "repeat" = tx "set" := by decide +kernel
                have z2 : ¬ tx "repeat" = tx "send" := by decide +kernel
                have z3 : ¬ tx "repeat" = tx "wait" := by decide +kernel
                cases k with
                | zero =>
                  refine gq_new0 ?_ rfl
                  rw [F_is_statement]
                  repeat (first | walk_at "ev" | simp only [h2, eqE_t, List.isEmpty_cons, gT_P, x0, x1, x2, hg, kget_many, many_repeat, w6, w11, in_named, w17, kd, stmtP, if_neg z, if_neg z2, if_neg z3, below])
                | succ j =>
                  have i1 := ih j rfl ob
                  have e4 : (3 : Int) - ((j + 1 : Nat) : Int) + 1 = 3 - (j : Int) := by omega
                  have kd' : decide ((3 : Int) ≤ 3 - ((j + 1 : Nat) : Int)) = false := by rw [kd]; simp
                  refine gq_new0 ?_ rfl
                  rw [F_is_statement]
                  cases e : exprP P.cs sz 3 a <;> repeat (first | walk_at "ev" | simp only [h2, eqE_t, List.isEmpty_cons, gT_P, x0, x1, x2, hg, kget_many, many_repeat, w6, w11, in_named, w17, kd', q1, e, e4, i1, stmtP, if_neg z, if_neg z2, if_neg z3, below, Bool.true_and, Bool.false_and])
          · have hr : rest.length = 1 := by omega
            match rest, hr with
            | [a], _ =>
              have x1 : ∀ S, ixD (.tup [.str w, a]) (.int 1) S = .ok a S := fun S => ix_t S rfl
              have oa := hd a (by simp)
              have n3 := is_named_q oa P.als
              have q1 := is_expression_3 P.cs sz oa
              rcases hw with rfl | rfl
              · refine gq_new0 ?_ rfl
                rw [F_is_statement]
                repeat (first | walk_at "ev" | simp only [h2, eqE_t, List.isEmpty_cons, gT_P, x0, x1, hg, kget_many, many_drop, n3, stmtP])
              · refine gq_new0 ?_ rfl
                rw [F_is_statement]
                have z : ¬ tx "say" = tx "drop" := by decide +kernel
                repeat (first | walk_at "ev" | simp only [h2, eqE_t, List.isEmpty_cons, gT_P, x0, x1, hg, kget_many, many_say, w1, q1, stmtP, if_neg z])
          · subst hw
            have hr : rest.length = 3 := by omega
            match rest, hr with
            | [c, x, y], _ =>
              have x1 : ∀ S, ixD (.tup [.str (tx "if"), c, x, y]) (.int 1) S = .ok c S := fun S => ix_t S rfl
              have q1 := is_condition_q P.cs sz (hd c (by simp))
              cases k with
              | zero =>
                refine gq_new0 ?_ rfl
                rw [F_is_statement]
                repeat (first | walk_at "ev" | simp only [h2, eqE_t, List.isEmpty_cons, gT_P, x0, x1, hg, kget_many, many_if, w5, w10, in_named, w16, kd, stmtP, below])
              | succ j =>
                have e4 : (3 : Int) - ((j + 1 : Nat) : Int) + 1 = 3 - (j : Int) := by omega
                have kd' : decide ((3 : Int) ≤ 3 - ((j + 1 : Nat) : Int)) = false := by rw [kd]; simp
                cases e : condP P.cs sz c with
                | false =>
                  refine gq_new0 ?_ rfl
                  rw [F_is_statement]
                  repeat (first | walk_at "ev" | simp only [h2, eqE_t, List.isEmpty_cons, gT_P, x0, x1, hg, kget_many, many_if, w5, w10, in_named, w16, kd', w12, q1, e, stmtP, below, Bool.false_and])
                | true =>
                  obtain ⟨its, hits⟩ : ∃ its : List D, its = [x, y] := ⟨_, rfl⟩
                  have hc : cutD [.str (tx "if"), c, x, y] (some 2) none = its := by rw [hits]; rfl
                  refine gq_new (l := [.lst (its.map fun d => .bl (progP P sz j d))]) ?_ rfl
                  rw [F_is_statement]
                  repeat (first | walk_at "ev" | simp only [h2, eqE_t, List.isEmpty_cons, gT_P, x0, x1, hg, kget_many, many_if, w5, w10, in_named, w16, kd', w12, q1, e])
                  rw [mLc_map (S0 := S) (src := .items its) its (fun d => .bl (progP P sz j d)) (by repeat (first | walk_at "ev" | simp only [hc])) rfl (fun _ _ => rfl) (fun d hd' l => by
                    refine ⟨_, rfl, ?_⟩
                    have : okD (S ++ l) d = true := okD_app (hd d (by rw [hits] at hd'; simp at hd'; rcases hd' with rfl | rfl <;> simp))
                    have := ih j rfl this
                    repeat (first | walk_at "ev" | simp only [e4, this])) (by rw [hits]; exact le_line (n := 2) (by decide))]
                  repeat (first | walk_at "ev" | rw [all_at (progP P sz j) its (at_end _ _)])
                  rw [hits]
                  simp only [stmtP, if_true, below, e, Bool.true_and, List.all_cons, List.all_nil, Bool.and_true]
        · have e1 : decide (((manyOf w : Nat) : Int) = ((rest.length + 1 : Nat) : Int)) = false := by
            simp only [decide_eq_false_iff_not]; omega
          refine gq_new0 ?_ rfl
          rw [F_is_statement]
          rw [stmtP_many P sz _ w rest hm]
          repeat (first | simp only [h2, eqE_t, List.isEmpty_cons, gT_P, x0, hg, kget_many, hln, e1] | walk_at "ev")
      | _ =>
        simp only [isStr] at hg
        refine gq_new0 ?_ rfl
        rw [F_is_statement]
        repeat (first | walk_at "ev" | simp only [h2, eqE_t, List.isEmpty_cons, gT_P, x0, hg, stmtP])
  | _ =>
    simp only [isTup] at h2
    refine gq_new0 ?_ rfl
    rw [F_is_statement]
    repeat (first | walk_at "ev" | simp only [h2, stmtP])
end Lw
namespace Lw
open PySem PySem.Spec PyProof.Rows L2 Fa
local macro_rules | `(tactic| walk_at "ev") => `(tactic| simp only [bK_ok, bK_err, bK_bad, bnd_ap, ret_ap, fail_ap, mVar_ap, vK_some, mC_ap, m1_ap, m2_ap, k2_ap, mNil_ap, mCons_ap, kCons_ap, kCon_ap, mA_ap, mIf_ap, kIf_t, kIf_f, tOf_ap, isBl_ap, tNt_ap, kNt_ap, tAn_ap, kAn_t, kAn_f, tOr_ap, kOr_t, kOr_f, mNot_ap, kNot_ap, mAnd_ap, kAnd_t, kAnd_f, mOr_ap, kOrV_t, kOrV_f,
  sSeq_ap, sK_nx, sK_rt, sK_bk, sK_ct, sK_ex, sK_bad, oK_ok, oK_err, oK_bad, kNx_ap, kRt_ap, sEx_ap, sRet_ap, sRetN_ap, sNx_ap, sBad_ap, sIf_ap, kIfS_t, kIfS_f, gN_ap, gT_ap, gT_tt, gTc_ap, gT0_ap, sAs_ap, kAs_ap, kAs2_ok, sPar_ap, kPar_ap, gSubD_ap, kSub1_ap, kSub2_ap, kSub3_ap, fK_nx, fK_rt, fK_ex, mLM_ap, mRng1_ap, mRng2_ap, mSrc_ap, src_t, src_r, src_s, src_k,
  mChain_ap, kCh1_ap, kCh2_ap, kCh3_t, kCh3_f, mSl_ap, kSl1_ap, kSl2_ap, mSlT_ap, kTl1_ap, kTl2_ap, mP0_ap, mP_ap, intO_ap, sl_t, dfl_ap, mTM_ap, kTM_k, kTM_t, mMeth_ap, kMe1_ap, kMe2_ap, kMe3_ap, gFld_ap, kF1_ap, gSubA_ap, kSA1_ap, kSA2_ap, sPar3_ap, kPar3_ap, mkD_ap, mkR_ok, dct0D_ap, mDisp_ap, mPairs_nil, mPairs_cons, kPr1_ap, kPr2_ap, kPr3_ap, tuple_t, list_t, mZip_ap, zip_tt,
  wipeE, nc0, nc1, nc2, nc3, nc4, nc5, nc6, nc7, nc8, nc9, nc10, nc11, nc12, nc13, nc14, nc15, Int.reduceEq, Int.reduceLE, Int.reduceLT, Int.reduceSub, Int.reduceAdd,
  fnM_ap, tupD_ap, lstD_ap, le_line, Nat.reduceLeDiff, eq_self,
  add_ii, sub_ii, neg_i, lt_ii, le_ii, gt_ii, ge_ii, isN_n, isN_i, isN_t, isN_s, isN_b, isN_l, abs_i, max_ii, min_ii, int_i, int_b, len_t, len_r, eq_ii, eq_bb, eq_ss,
  List.map_cons, List.map_nil, List.cons_append, List.nil_append, List.append_nil, List.replicate_succ, List.replicate_zero, List.length_cons, List.length_nil, Nat.reduceSub, Nat.reduceAdd, Nat.sub_self, Nat.zero_add,
  List.getElem?_cons_succ, List.getElem?_cons_zero, List.set_cons_succ, List.set_cons_zero, Bool.not_true, Bool.not_false, decide_true, decide_false, if_true, if_false, reduceIte, Bool.false_eq_true])
theorem program_q (P : Ports) (sz : Int) : ∀ (k n : Nat) {S : Sto} {v : D}, k ≤ 2 → 2 * k + 2 ≤ n → okD S v = true → gq (F_is_program n) [v, P.d, .int sz, .int (3 - (k : Int))] S = .ok (.bl (progP P sz k v)) S := by
  intro k
  induction k with
  | zero =>
    intro n S v hk hn h
    obtain ⟨n, rfl⟩ : ∃ m, n = m + 2 := ⟨n - 2, by omega⟩
    exact prog_step P sz 0 n (by omega) (fun j hj => by omega) h
  | succ k ih =>
    intro n S v hk hn h
    obtain ⟨n, rfl⟩ : ∃ m, n = m + 2 := ⟨n - 2, by omega⟩
    exact prog_step P sz (k + 1) n (by omega) (fun j hj {S v} h => by
      have : j = k := by omega
      subst this
      exact ih n (by omega) (by omega) h) h
where
  prog_step (P : Ports) (sz : Int) (k n : Nat) (hk : k ≤ 2) (ih : ∀ j, k = j + 1 → ∀ {S : Sto} {v : D}, okD S v = true → gq (F_is_program n) [v, P.d, .int sz, .int (3 - (j : Int))] S = .ok (.bl (progP P sz j v)) S)
      {S : Sto} {v : D} (h : okD S v = true) : gq (F_is_program (n + 2)) [v, P.d, .int sz, .int (3 - (k : Int))] S = .ok (.bl (progP P sz k v)) S := by
    have h2 := isi_tup h
    cases v with
    | tup ds =>
      simp only [isTup] at h2
      obtain ⟨hl, hd⟩ := okD_tup h
      rw [progP_tup]
      cases e : decide (ds.length ≤ 6) with
      | false =>
        refine gq_new0 ?_ rfl
        rw [F_is_program]
        have e' : decide ((6 : Int) < (ds.length : Int)) = true := by
          simp only [decide_eq_false_iff_not, decide_eq_true_eq] at e ⊢; omega
        repeat (first | walk_at "ev" | simp only [h2, e', Bool.false_and])
      | true =>
        have e' : decide ((6 : Int) < (ds.length : Int)) = false := by
          simp only [decide_eq_false_iff_not, decide_eq_true_eq] at e ⊢; omega
        refine gq_new (l := [.lst (ds.map fun d => .bl (stmtP P sz (below P sz k) d))]) ?_ rfl
        rw [F_is_program]
        repeat (first | walk_at "ev" | simp only [h2, e'])
        rw [mLc_map (S0 := S) (src := .items ds) ds (fun d => .bl (stmtP P sz (below P sz k) d)) (by walk_at "ev") rfl (fun _ _ => rfl) (fun d hd' l => by
          refine ⟨_, rfl, ?_⟩
          have := stmt_step P sz k n hk ih (okD_app (l := l) (hd d hd'))
          repeat (first | walk_at "ev" | simp only [this])) (le_line hl)]
        repeat (first | walk_at "ev" | rw [all_at (stmtP P sz (below P sz k)) ds (at_end _ _)])
        rw [Bool.true_and]
    | _ =>
      simp only [isTup] at h2
      have : ∀ v, isTup v = false → progP P sz k v = false := fun v hv => by
        cases k <;> cases v <;> first | rfl | (simp [isTup] at hv)
      rw [this _ rfl]
      refine gq_new0 ?_ rfl
      rw [F_is_program]
      repeat (first | walk_at "ev" | simp only [h2])
theorem program_1 (P : Ports) (sz : Int) {S : Sto} {v : D} (h : okD S v = true) : gq (F_is_program 12) [v, P.d, .int sz, .int 1] S = .ok (.bl (progP P sz 2 v)) S := program_q P sz 2 12 (by decide) (by decide) h
def namesP (most : Nat) : D → Bool
  | .tup ds => decide (ds.length ≤ most) && ds.all nameP
  | _ => false
theorem are_names_q {S : Sto} {v : D} (h : okD S v = true) (most : Nat) : gq F_are_names [v, .int (most : Int)] S = .ok (.bl (namesP most v)) S := by
  have h2 := isi_tup h
  cases v with
  | tup ds =>
    simp only [isTup] at h2
    obtain ⟨hl, hd⟩ := okD_tup h
    cases e : decide (ds.length ≤ most) with
    | false =>
      refine gq_new0 ?_ rfl
      unfold F_are_names
      have e' : decide ((ds.length : Int) ≤ (most : Int)) = false := by
        simp only [decide_eq_false_iff_not] at e ⊢; omega
      repeat (first | walk_at "ev" | simp only [h2, e', e, namesP, Bool.false_and])
    | true =>
      have e' : decide ((ds.length : Int) ≤ (most : Int)) = true := by
        simp only [decide_eq_true_eq] at e ⊢; omega
      refine gq_new (l := [.lst (ds.map fun d => .bl (nameP d))]) ?_ rfl
      unfold F_are_names
      repeat (first | walk_at "ev" | simp only [h2, e'])
      rw [mLc_map (S0 := S) (src := .items ds) ds (fun d => .bl (nameP d)) (by walk_at "ev") rfl (fun _ _ => rfl) (fun d hd' l => by
        refine ⟨_, rfl, ?_⟩
        have := is_name_q (okD_app (l := l) (hd d hd'))
        repeat (first | walk_at "ev" | simp only [this])) (le_line hl)]
      repeat (first | walk_at "ev" | rw [all_at nameP ds (at_end _ _)])
      simp only [namesP, e, Bool.true_and]
  | _ =>
    simp only [isTup] at h2
    refine gq_new0 ?_ rfl
    unfold F_are_names
    repeat (first | walk_at "ev" | simp only [h2, namesP])
def pairP : D → Bool
  | .tup [nm, _] => nameP nm
  | _ => false
def worthP (sz : Int) : D → Bool
  | .tup [_, wo] => numP 0 (some (sz - 1)) wo
  | _ => false
def cellsP (sz : Int) : D → Bool
  | .tup ds => decide (ds.length ≤ 3) && (ds.all pairP && ds.all (worthP sz))
  | _ => false
theorem pair_q {S : Sto} {d : D} (h : okD S d = true) {f : Fa.Env → M D} {r : Fa.Env} (hr : ∀ S, f r S = .ok d S) :
    mAnd (mA isiD (mCons f (mCons (mC (.ty "tuple")) mNil))) (mAnd (m2 (eqB false) (mA lenD (mCons f mNil)) (mC (.int 2))) (mA (gq F_is_name) (mCons (m2 ixD f (mC (.int 0))) mNil))) r S = .ok (.bl (pairP d)) S := by
  have h2 := isi_tup h
  cases d with
  | tup ds =>
    simp only [isTup] at h2
    obtain ⟨hl, hd⟩ := okD_tup h
    by_cases h3 : ds.length = 2
    · match ds, h3 with
      | [a, b], _ =>
        have x0 : ∀ S, ixD (.tup [a, b]) (.int 0) S = .ok a S := fun S => ix_t S rfl
        have := is_name_q (hd a (by simp))
        repeat (first | walk_at "ev" | simp only [hr, h2, x0, this, pairP])
    · have e : decide ((ds.length : Int) = 2) = false := by simp only [decide_eq_false_iff_not]; omega
      have : pairP (.tup ds) = false := by
        unfold pairP
        split <;> simp_all
      repeat (first | walk_at "ev" | simp only [hr, h2, e, this])
  | _ =>
    simp only [isTup] at h2
    repeat (first | walk_at "ev" | simp only [hr, h2, pairP])
theorem are_cells_q {S : Sto} {v : D} (h : okD S v = true) (sz : Int) : gq F_are_cells [v, .int sz] S = .ok (.bl (cellsP sz v)) S := by
  have h2 := isi_tup h
  cases v with
  | tup ds =>
    simp only [isTup] at h2
    obtain ⟨hl, hd⟩ := okD_tup h
    cases e : decide (ds.length ≤ 3) with
    | false =>
      refine gq_new0 ?_ rfl
      unfold F_are_cells
      have e' : decide ((3 : Int) < (ds.length : Int)) = true := by
        simp only [decide_eq_false_iff_not, decide_eq_true_eq] at e ⊢; omega
      repeat (first | walk_at "ev" | simp only [h2, e', e, cellsP, Bool.false_and])
    | true =>
      have e' : decide ((3 : Int) < (ds.length : Int)) = false := by
        simp only [decide_eq_false_iff_not, decide_eq_true_eq] at e ⊢; omega
      have c1 : ∀ r : Fa.Env, r[0]? = some (some (.tup ds)) → mLc (mSrc (mVar 0)) (gN 4) tT (mAnd (mA isiD (mCons (mVar 4) (mCons (mC (.ty "tuple")) mNil))) (mAnd (m2 (eqB false) (mA lenD (mCons (mVar 4) mNil)) (mC (.int 2))) (mA (gq F_is_name) (mCons (m2 ixD (mVar 4) (mC (.int 0))) mNil)))) [4] [some (.tup ds), some (.int sz), none, none, none] S
          = .ok (.loc S.length) (S ++ [.lst (ds.map fun d => .bl (pairP d))]) := fun r _ =>
        mLc_map (S0 := S) (src := .items ds) ds (fun d => .bl (pairP d)) (by walk_at "ev") rfl (fun _ _ => rfl) (fun d hd' l => by
          refine ⟨_, rfl, ?_⟩
          exact pair_q (okD_app (hd d hd')) (fun S => by repeat (first | walk_at "ev"))) (le_line hl)
      cases e2 : ds.all pairP with
      | false =>
        refine gq_new (l := [.lst (ds.map fun d => .bl (pairP d))]) ?_ rfl
        unfold F_are_cells
        repeat (first | walk_at "ev" | simp only [h2, e'])
        rw [c1 [some (.tup ds)] rfl]
        repeat (first | walk_at "ev" | rw [all_at pairP ds (at_end _ _)] | simp only [e2])
        simp only [cellsP, e, e2, Bool.false_and, Bool.and_false]
      | true =>
        refine gq_new (l := [.lst (ds.map fun d => .bl (pairP d)), .lst (ds.map fun d => .bl (worthP sz d))]) ?_ rfl
        unfold F_are_cells
        repeat (first | walk_at "ev" | simp only [h2, e'])
        rw [c1 [some (.tup ds)] rfl]
        repeat (first | walk_at "ev" | rw [all_at pairP ds (at_end _ _)] | simp only [e2])
        rw [mLc_map (S0 := S ++ [.lst (ds.map fun d => .bl (pairP d))]) (src := .items ds) ds (fun d => .bl (worthP sz d)) (by walk_at "ev") rfl (fun _ _ => rfl) (fun d hd' l => by
          have hp := List.all_eq_true.mp e2 d hd'
          have hok := okD_app (l := [.lst (ds.map fun d => .bl (pairP d))]) (hd d hd')
          match d, hp with
          | .tup [a, b], _ =>
            refine ⟨_, rfl, ?_⟩
            have := is_number_i (okD_app (l := l) ((okD_tup hok).2 b (by simp))) 0 (sz - 1)
            repeat (first | walk_at "ev" | simp only [this, worthP])) (le_line hl)]
        repeat (first | walk_at "ev" | rw [all_at (worthP sz) ds (at_end _ _)])
        simp only [cellsP, e, e2, Bool.true_and, List.append_assoc, List.cons_append, List.nil_append]
  | _ =>
    simp only [isTup] at h2
    refine gq_new0 ?_ rfl
    unfold F_are_cells
    repeat (first | walk_at "ev" | simp only [h2, cellsP])
end Lw
namespace Lw
open PySem PySem.Spec PyProof.Rows L2 Fa
local macro_rules | `(tactic| walk_at "ev") => `(tactic| simp only [bK_ok, bK_err, bK_bad, bnd_ap, ret_ap, fail_ap, mVar_ap, vK_some, mC_ap, m1_ap, m2_ap, k2_ap, mNil_ap, mCons_ap, kCons_ap, kCon_ap, mA_ap, mIf_ap, kIf_t, kIf_f, tOf_ap, isBl_ap, tNt_ap, kNt_ap, tAn_ap, kAn_t, kAn_f, tOr_ap, kOr_t, kOr_f, mNot_ap, kNot_ap, mAnd_ap, kAnd_t, kAnd_f, mOr_ap, kOrV_t, kOrV_f,
  sSeq_ap, sK_nx, sK_rt, sK_bk, sK_ct, sK_ex, sK_bad, oK_ok, oK_err, oK_bad, kNx_ap, kRt_ap, sEx_ap, sRet_ap, sRetN_ap, sNx_ap, sBad_ap, sIf_ap, kIfS_t, kIfS_f, gN_ap, gT_ap, gT_tt, gTc_ap, gT0_ap, sAs_ap, kAs_ap, kAs2_ok, sPar_ap, kPar_ap, gSubD_ap, kSub1_ap, kSub2_ap, kSub3_ap, fK_nx, fK_rt, fK_ex, mLM_ap, mRng1_ap, mRng2_ap, mSrc_ap, src_t, src_r, src_s, src_k,
  mChain_ap, kCh1_ap, kCh2_ap, kCh3_t, kCh3_f, mSl_ap, kSl1_ap, kSl2_ap, mSlT_ap, kTl1_ap, kTl2_ap, mP0_ap, mP_ap, intO_ap, sl_t, dfl_ap, mTM_ap, kTM_k, kTM_t, mMeth_ap, kMe1_ap, kMe2_ap, kMe3_ap, gFld_ap, kF1_ap, gSubA_ap, kSA1_ap, kSA2_ap, sPar3_ap, kPar3_ap, mkD_ap, mkR_ok, dct0D_ap, mDisp_ap, mPairs_nil, mPairs_cons, kPr1_ap, kPr2_ap, kPr3_ap, tuple_t, list_t, mZip_ap, zip_tt,
  wipeE, nc0, nc1, nc2, nc3, nc4, nc5, nc6, nc7, nc8, nc9, nc10, nc11, nc12, nc13, nc14, nc15, Int.reduceEq, Int.reduceLE, Int.reduceLT, Int.reduceSub, Int.reduceAdd,
  fnM_ap, tupD_ap, lstD_ap, le_line, Nat.reduceLeDiff, eq_self,
  add_ii, sub_ii, neg_i, lt_ii, le_ii, gt_ii, ge_ii, isN_n, isN_i, isN_t, isN_s, isN_b, isN_l, abs_i, max_ii, min_ii, int_i, int_b, len_t, len_r, eq_ii, eq_bb, eq_ss,
  List.map_cons, List.map_nil, List.cons_append, List.nil_append, List.append_nil, List.replicate_succ, List.replicate_zero, List.length_cons, List.length_nil, Nat.reduceSub, Nat.reduceAdd, Nat.sub_self, Nat.zero_add,
  List.getElem?_cons_succ, List.getElem?_cons_zero, List.set_cons_succ, List.set_cons_zero, Bool.not_true, Bool.not_false, decide_true, decide_false, if_true, if_false, reduceIte, Bool.false_eq_true])
def strOf : D → Str
  | .str z => z
  | _ => ⟨#[]⟩
def fstD : D → D
  | .tup (a :: _) => a
  | _ => .non
def itsD : D → List D
  | .tup ds => ds
  | _ => []
theorem strs_of_names : ∀ {ds : List D}, ds.all nameP = true → ds = (ds.map strOf).map D.str
  | [], _ => rfl
  | d :: ds, h => by
    rw [List.all_cons, Bool.and_eq_true] at h
    rw [List.map_cons, List.map_cons, ← strs_of_names h.2]
    cases d <;> first | rfl | (exact absurd h.1 (by simp [nameP]))
theorem fst_of_cells : ∀ {ds : List D}, ds.all pairP = true → ds.map fstD = (ds.map fun d => strOf (fstD d)).map D.str
  | [], _ => rfl
  | d :: ds, h => by
    rw [List.all_cons, Bool.and_eq_true] at h
    rw [List.map_cons, List.map_cons, List.map_cons, fst_of_cells h.2]
    match d, h.1 with
    | .tup [a, b], h1 =>
      cases a <;> first | rfl | (exact absurd h1 (by simp [pairP, nameP]))
/-- the names of a station: of cells, ins, outs, alarms -/
def eachOf (c i o a : D) : List Str := (itsD c).map (fun d => strOf (fstD d)) ++ (itsD i).map strOf ++ (itsD o).map strOf ++ (itsD a).map strOf
def portsOf (c o a : D) : Ports := ⟨(itsD c).map (fun d => strOf (fstD d)), (itsD o).map strOf, (itsD a).map strOf⟩
def stationQ (sz : Int) (nm c i o a b : D) : Bool :=
  nameP nm && (cellsP sz c && (namesP 3 i && (namesP 3 o && (namesP 2 a && (isTup b && (decide ((itsD b).length = (itsD a).length + (itsD i).length) && (!decide (tx "it" ∈ eachOf c i o a) && (decide (eachOf c i o a).Nodup && (itsD b).all (progP (portsOf c o a) sz 2)))))))))
def stationP (sz : Int) : D → Bool
  | .tup [nm, c, i, o, a, b] => stationQ sz nm c i o a b
  | _ => false
theorem nodup_keys (l : List Str) : (l.map fun z => (Sum.inr z : Key)).Nodup ↔ l.Nodup := by
  unfold List.Nodup
  rw [List.pairwise_map]
  exact ⟨fun h => h.imp fun hab e => hab (by rw [e]), fun h => h.imp fun hab e => hab (by injection e)⟩
theorem uniq_len (l : List Str) : decide (((putsK (l.map fun z => (Sum.inr z : Key))).length : Int) = (l.length : Int)) = decide l.Nodup := by
  have h := (putsK_len (l.map fun z => (Sum.inr z : Key))).1
  rw [List.length_map, nodup_keys] at h
  by_cases hn : l.Nodup
  · have := h.mpr hn
    rw [decide_eq_true hn, decide_eq_true (by omega)]
  · rw [decide_eq_false hn, decide_eq_false (fun z => hn (h.mp (by omega)))]
theorem mem_its {S : Sto} {v d : D} (h : okD S v = true) (hd : d ∈ itsD v) : okD S d = true := by
  cases v with
  | tup ds => exact (okD_tup h).2 d hd
  | _ => cases hd
theorem is_station_q {S : Sto} {v : D} (h : okD S v = true) (sz : Int) : gq F_is_station [v, .int sz] S = .ok (.bl (stationP sz v)) S := by
  have h2 := isi_tup h
  cases v with
  | tup ds =>
    simp only [isTup] at h2
    obtain ⟨hl, hd⟩ := okD_tup h
    by_cases h6 : ds.length = 6
    · match ds, h6 with
      | [nm, c, i, o, a, b], _ =>
        have x0 : ∀ S, ixD (.tup [nm, c, i, o, a, b]) (.int 0) S = .ok nm S := fun S => ix_t S rfl
        have q0 := is_name_q (hd nm (by simp))
        have q1 := are_cells_q (hd c (by simp)) sz
        have q2 := are_names_q (hd i (by simp)) 3
        have q3 := are_names_q (hd o (by simp)) 3
        have q4 := are_names_q (hd a (by simp)) 2
        have q5 := isi_tup (hd b (by simp))
        simp only [nc3, nc2] at q2 q3 q4
        show _ = Res.ok (D.bl (stationQ sz nm c i o a b)) S
        unfold stationQ
        cases e0 : nameP nm with
        | false =>
          refine gq_new0 ?_ rfl
          unfold F_is_station
          repeat (first | walk_at "ev" | simp only [h2, x0, q0, e0, Bool.false_and])
        | true =>
        cases e1 : cellsP sz c with
        | false =>
          refine gq_new0 ?_ rfl
          unfold F_is_station
          repeat (first | walk_at "ev" | simp only [h2, x0, q0, e0, q1, e1, Bool.false_and, Bool.true_and])
        | true =>
        cases e2 : namesP 3 i with
        | false =>
          refine gq_new0 ?_ rfl
          unfold F_is_station
          repeat (first | walk_at "ev" | simp only [h2, x0, q0, e0, q1, e1, q2, e2, Bool.false_and, Bool.true_and])
        | true =>
        cases e3 : namesP 3 o with
        | false =>
          refine gq_new0 ?_ rfl
          unfold F_is_station
          repeat (first | walk_at "ev" | simp only [h2, x0, q0, e0, q1, e1, q2, e2, q3, e3, Bool.false_and, Bool.true_and])
        | true =>
        cases e4 : namesP 2 a with
        | false =>
          refine gq_new0 ?_ rfl
          unfold F_is_station
          repeat (first | walk_at "ev" | simp only [h2, x0, q0, e0, q1, e1, q2, e2, q3, e3, q4, e4, Bool.false_and, Bool.true_and])
        | true =>
        cases e5 : isTup b with
        | false =>
          refine gq_new0 ?_ rfl
          unfold F_is_station
          repeat (first | walk_at "ev" | simp only [h2, x0, q0, e0, q1, e1, q2, e2, q3, e3, q4, e4, q5, e5, Bool.false_and, Bool.true_and])
        | true =>
        have hb := hd b (by simp)
        match c, i, o, a, b, e1, e2, e3, e4, e5, q1, q2, q3, q4, q5, hb, x0, h2 with
        | .tup c, .tup i, .tup o, .tup a, .tup b, e1, e2, e3, e4, e5, q1, q2, q3, q4, q5, hb, x0, h2 =>
        rw [e5] at q5
        rw [e1] at q1
        rw [e2] at q2
        rw [e3] at q3
        rw [e4] at q4
        rw [e0] at q0
        simp only [cellsP, namesP, Bool.and_eq_true, decide_eq_true_eq] at e1 e2 e3 e4
        obtain ⟨lc, pc, wc⟩ := e1
        obtain ⟨li, pi⟩ := e2
        obtain ⟨lo, po⟩ := e3
        obtain ⟨la, pa⟩ := e4
        have lb : ∀ S, lenD [.tup b] S = .ok (.int (b.length : Int)) S := fun S => len_t S _
        have en : decide ((b.length : Int) = (a.length : Int) + (i.length : Int)) = decide (b.length = a.length + i.length) := by
          by_cases z : b.length = a.length + i.length
          · rw [decide_eq_true z, decide_eq_true (by omega)]
          · rw [decide_eq_false z, decide_eq_false (by omega)]
        simp only [itsD, Bool.true_and]
        cases e6 : decide (b.length = a.length + i.length) with
        | false =>
          refine gq_new0 ?_ rfl
          unfold F_is_station
          rw [e6] at en
          repeat (first | walk_at "ev" | simp only [h2, x0, q0, q1, q2, q3, q4, q5, en])
          have z := of_decide_eq_false e6
          simp [z]
        | true =>
        rw [e6] at en
        have z6 := of_decide_eq_true e6
        have hc0 := (okD_tup (hd (.tup c) (by simp)))
        -- the names
        have m1 : ∀ r : Fa.Env, r = [some (.tup [nm, .tup c, .tup i, .tup o, .tup a, .tup b]), some (.int sz), some nm, some (.tup c), some (.tup i), some (.tup o), some (.tup a), some (.tup b), none, none, none, none, none] →
            mLc (mSrc (mVar 3)) (gN 10) tT (m2 ixD (mVar 10) (mC (.int 0))) [10] r S = .ok (.loc S.length) (S ++ [.lst (c.map fstD)]) := fun r hr => by
          subst hr
          exact mLc_map (S0 := S) (src := .items c) c fstD (by walk_at "ev") rfl (fun _ _ => rfl) (fun d hd' l => by
            have hp := List.all_eq_true.mp pc d hd'
            match d, hp with
            | .tup [y, z], _ =>
              have y0 : ∀ S, ixD (.tup [y, z]) (.int 0) S = .ok y S := fun S => ix_t S rfl
              refine ⟨_, rfl, ?_⟩
              repeat (first | walk_at "ev" | simp only [y0, fstD])) (le_line hc0.1)
        obtain ⟨S1, hS1⟩ : ∃ S1, S1 = S ++ [.lst (c.map fstD)] := ⟨_, rfl⟩
        have m2' : tupleD [.loc S.length] S1 = .ok (.tup (c.map fstD)) S1 := by rw [hS1]; exact tuple_l _ (at_end _ _)
        rw [← hS1] at m1
        have l1 : (c.map fstD).length + i.length ≤ sizeLine := le_line (by rw [List.length_map]; omega)
        have l2 : (c.map fstD ++ i).length + o.length ≤ sizeLine := le_line (by rw [List.length_append, List.length_map]; omega)
        have l3 : (c.map fstD ++ i ++ o).length + a.length ≤ sizeLine := le_line (by rw [List.length_append, List.length_append, List.length_map]; omega)
        have a1 := add_tt S1 (c.map fstD) i l1
        have a2 := add_tt S1 (c.map fstD ++ i) o l2
        have a3 := add_tt S1 (c.map fstD ++ i ++ o) a l3
        obtain ⟨ea, hea⟩ : ∃ ea, ea = eachOf (.tup c) (.tup i) (.tup o) (.tup a) := ⟨_, rfl⟩
        have ed : c.map fstD ++ i ++ o ++ a = ea.map D.str := by
          rw [hea]
          unfold eachOf itsD
          rw [List.map_append, List.map_append, List.map_append, ← fst_of_cells pc, ← strs_of_names pi, ← strs_of_names po, ← strs_of_names pa]
        rw [ed] at a3
        have lea : ea.length ≤ 1000 := by
          have := congrArg List.length ed
          simp only [List.length_append, List.length_map] at this
          omega
        have hin := in_strs false (tx "it") ea S1
        rw [if_neg (by decide)] at hin
        rw [← hea]
        cases e7 : decide (tx "it" ∈ ea) with
        | true =>
          rw [e7] at hin
          refine gq_new (l := [.lst (c.map fstD)]) ?_ rfl
          rw [← hS1]
          unfold F_is_station
          repeat (first | walk_at "ev" | simp only [h2, x0, q0, q1, q2, q3, q4, q5, en, m1 _ rfl, m2', a1, a2, a3, hin, Bool.not_true, Bool.false_and, Bool.and_false])
        | false =>
        rw [e7] at hin
        have m3 : ∀ r : Fa.Env, r = [some (.tup [nm, .tup c, .tup i, .tup o, .tup a, .tup b]), some (.int sz), some nm, some (.tup c), some (.tup i), some (.tup o), some (.tup a), some (.tup b), some (.tup (c.map fstD)), some (.tup (ea.map D.str)), none, none, none] → mDc false (mSrc (mVar 9)) (gN 12) tT (mVar 12) (mC (.bl true)) [12] r S1 = .ok (.loc S1.length) (S1 ++ [.dct (putsK ((ea.map D.str).map fun d => Sum.inr (strOf d)))]) := fun r hr => by
          subst hr
          refine mDc_keys (S0 := S1) (src := .items (ea.map D.str)) (ea.map D.str) (fun d => Sum.inr (strOf d)) id (by walk_at "ev") rfl (fun _ _ => rfl) (fun d hd' => ?_) (fun d hd' l => ?_) (le_line (by rw [List.length_map]; exact lea))
          · obtain ⟨z, _, rfl⟩ := List.mem_map.mp hd'
            rfl
          · refine ⟨_, rfl, ?_, rfl⟩
            walk_at "ev"
            rfl
        obtain ⟨S2, hS2⟩ : ∃ S2, S2 = S1 ++ [.dct (putsK ((ea.map D.str).map fun d => Sum.inr (strOf d)))] := ⟨_, rfl⟩
        rw [← hS2] at m3
        have hun : decide (((putsK ((ea.map D.str).map fun d => (Sum.inr (strOf d) : Key))).length : Int) = (((ea.map D.str).length : Nat) : Int)) = decide ea.Nodup := by
          rw [List.map_map, List.length_map]
          exact uniq_len ea
        have m4 : lenD [.loc S1.length] S2 = .ok (.int ((putsK ((ea.map D.str).map fun d => (Sum.inr (strOf d) : Key))).length : Int)) S2 := by rw [hS2]; exact len_d _ (at_end _ _)
        have m5 : lenD [.tup (ea.map D.str)] S2 = .ok (.int (ea.length : Int)) S2 := by
          rw [len_t, List.length_map]
        cases e8 : decide ea.Nodup with
        | false =>
          rw [e8] at hun
          refine gq_new (l := [.lst (c.map fstD), .dct (putsK ((ea.map D.str).map fun d => Sum.inr (strOf d)))]) ?_ rfl
          rw [show S ++ [MO.lst (c.map fstD), .dct (putsK ((ea.map D.str).map fun d => Sum.inr (strOf d)))] = S2 by rw [hS2, hS1, List.append_assoc]; rfl]
          unfold F_is_station
          repeat (first | simp only [h2, x0, q0, q1, q2, q3, q4, q5, en, m1 _ rfl, m2', a1, a2, a3, hin, m3 _ rfl, m4, m5, hun] | walk_at "ev")
          simp
        | true =>
          rw [e8] at hun
          obtain ⟨P, hP⟩ : ∃ P, P = portsOf (.tup c) (.tup o) (.tup a) := ⟨_, rfl⟩
          have hPd : D.tup [.tup (c.map fstD), .tup o, .tup a] = P.d := by
            rw [hP]
            unfold portsOf Ports.d itsD
            rw [← fst_of_cells pc, ← strs_of_names po, ← strs_of_names pa]
          rw [← hP]
          obtain ⟨hbl, hbd⟩ := okD_tup hb
          refine gq_new (l := [.lst (c.map fstD), .dct (putsK ((ea.map D.str).map fun d => Sum.inr (strOf d))), .lst (b.map fun d => .bl (progP P sz 2 d))]) ?_ rfl
          rw [show S ++ [MO.lst (c.map fstD), .dct (putsK ((ea.map D.str).map fun d => Sum.inr (strOf d))), .lst (b.map fun d => .bl (progP P sz 2 d))] = S2 ++ [.lst (b.map fun d => .bl (progP P sz 2 d))] by rw [hS2, hS1, List.append_assoc, List.append_assoc]; rfl]
          unfold F_is_station
          repeat (first | simp only [h2, x0, q0, q1, q2, q3, q4, q5, en, m1 _ rfl, m2', a1, a2, a3, hin, m3 _ rfl, m4, m5, hun] | walk_at "ev")
          rw [mLc_map (S0 := S2) (src := .items b) b (fun d => .bl (progP P sz 2 d)) (by walk_at "ev") rfl (fun _ _ => rfl) (fun d hd' l => by
            refine ⟨_, rfl, ?_⟩
            have ok2 : okD (S2 ++ l) d = true := by
              rw [hS2, hS1]
              exact okD_app (okD_app (okD_app (hbd d hd')))
            have := program_1 P sz ok2
            repeat (first | walk_at "ev" | simp only [hPd, this])) (le_line hbl)]
          repeat (first | walk_at "ev" | rw [all_at (progP P sz 2) b (at_end _ _)])
          simp [z6]
    · have e : decide ((ds.length : Int) = 6) = false := by simp only [decide_eq_false_iff_not]; omega
      have : stationP sz (.tup ds) = false := by
        unfold stationP
        split <;> simp_all
      refine gq_new0 ?_ rfl
      unfold F_is_station
      repeat (first | walk_at "ev" | simp only [h2, e, this])
  | _ =>
    simp only [isTup] at h2
    refine gq_new0 ?_ rfl
    unfold F_is_station
    repeat (first | walk_at "ev" | simp only [h2, stationP])
end Lw
namespace Lw
open PySem PySem.Spec PyProof.Rows L2 Fa
local macro_rules | `(tactic| walk_at "ev") => `(tactic| simp only [bK_ok, bK_err, bK_bad, bnd_ap, ret_ap, fail_ap, mVar_ap, vK_some, mC_ap, m1_ap, m2_ap, k2_ap, mNil_ap, mCons_ap, kCons_ap, kCon_ap, mA_ap, mIf_ap, kIf_t, kIf_f, tOf_ap, isBl_ap, tNt_ap, kNt_ap, tAn_ap, kAn_t, kAn_f, tOr_ap, kOr_t, kOr_f, mNot_ap, kNot_ap, mAnd_ap, kAnd_t, kAnd_f, mOr_ap, kOrV_t, kOrV_f,
  sSeq_ap, sK_nx, sK_rt, sK_bk, sK_ct, sK_ex, sK_bad, oK_ok, oK_err, oK_bad, kNx_ap, kRt_ap, sEx_ap, sRet_ap, sRetN_ap, sNx_ap, sBad_ap, sIf_ap, kIfS_t, kIfS_f, gN_ap, gT_ap, gT_tt, gTc_ap, gT0_ap, sAs_ap, kAs_ap, kAs2_ok, sPar_ap, kPar_ap, gSubD_ap, kSub1_ap, kSub2_ap, kSub3_ap, fK_nx, fK_rt, fK_ex, mLM_ap, mRng1_ap, mRng2_ap, mSrc_ap, src_t, src_r, src_s, src_k,
  mChain_ap, kCh1_ap, kCh2_ap, kCh3_t, kCh3_f, mSl_ap, kSl1_ap, kSl2_ap, mSlT_ap, kTl1_ap, kTl2_ap, mP0_ap, mP_ap, intO_ap, sl_t, dfl_ap, mTM_ap, kTM_k, kTM_t, mMeth_ap, kMe1_ap, kMe2_ap, kMe3_ap, gFld_ap, kF1_ap, gSubA_ap, kSA1_ap, kSA2_ap, sPar3_ap, kPar3_ap, mkD_ap, mkR_ok, dct0D_ap, mDisp_ap, mPairs_nil, mPairs_cons, kPr1_ap, kPr2_ap, kPr3_ap, tuple_t, list_t, mZip_ap, zip_tt,
  wipeE, nc0, nc1, nc2, nc3, nc4, nc5, nc6, nc7, nc8, nc9, nc10, nc11, nc12, nc13, nc14, nc15, Int.reduceEq, Int.reduceLE, Int.reduceLT, Int.reduceSub, Int.reduceAdd,
  fnM_ap, tupD_ap, lstD_ap, le_line, Nat.reduceLeDiff, eq_self,
  add_ii, sub_ii, neg_i, lt_ii, le_ii, gt_ii, ge_ii, isN_n, isN_i, isN_t, isN_s, isN_b, isN_l, abs_i, max_ii, min_ii, int_i, int_b, len_t, len_r, eq_ii, eq_bb, eq_ss,
  List.map_cons, List.map_nil, List.cons_append, List.nil_append, List.append_nil, List.replicate_succ, List.replicate_zero, List.length_cons, List.length_nil, Nat.reduceSub, Nat.reduceAdd, Nat.sub_self, Nat.zero_add,
  List.getElem?_cons_succ, List.getElem?_cons_zero, List.set_cons_succ, List.set_cons_zero, Bool.not_true, Bool.not_false, decide_true, decide_false, if_true, if_false, reduceIte, Bool.false_eq_true])
/-- a station, by its parts -/
structure Stn where
  z : Str
  c : List D
  i : List Str
  o : List Str
  a : List Str
  b : List D
def Stn.d (s : Stn) : D := .tup [.str s.z, .tup s.c, .tup (s.i.map D.str), .tup (s.o.map D.str), .tup (s.a.map D.str), .tup s.b]
theorem names_of {n : Nat} {v : D} (h : namesP n v = true) : ∃ l : List Str, v = .tup (l.map D.str) ∧ l.all nameS = true ∧ l.length ≤ n := by
  cases v with
  | tup ds =>
    simp only [namesP, Bool.and_eq_true, decide_eq_true_eq] at h
    refine ⟨ds.map strOf, by rw [← strs_of_names h.2], ?_, by rw [List.length_map]; exact h.1⟩
    rw [List.all_map, List.all_eq_true]
    intro d hd
    have := List.all_eq_true.mp h.2 d hd
    cases d <;> first | exact this | (exact absurd this (by simp [nameP]))
  | _ => cases h
/-- what is_station tells, by parts -/
structure StnOk (sz : Int) (s : Stn) : Prop where
  nm : nameS s.z = true
  cl : cellsP sz (.tup s.c) = true
  il : s.i.all nameS = true ∧ s.i.length ≤ 3
  ol : s.o.all nameS = true ∧ s.o.length ≤ 3
  al : s.a.all nameS = true ∧ s.a.length ≤ 2
  bl : s.b.length = s.a.length + s.i.length
  it : ¬ tx "it" ∈ s.c.map (fun d => strOf (fstD d)) ++ s.i ++ s.o ++ s.a
  un : (s.c.map (fun d => strOf (fstD d)) ++ s.i ++ s.o ++ s.a).Nodup
  pr : s.b.all (progP ⟨s.c.map (fun d => strOf (fstD d)), s.o, s.a⟩ sz 2) = true
theorem map_strOf (l : List Str) : (l.map D.str).map strOf = l := by
  rw [List.map_map]
  exact List.map_id' l
theorem stationP_d (sz : Int) (s : Stn) : stationP sz s.d = true ↔ StnOk sz s := by
  show stationQ sz _ _ _ _ _ _ = true ↔ _
  unfold stationQ
  have hn : ∀ (l : List Str) n, namesP n (.tup (l.map D.str)) = (decide (l.length ≤ n) && l.all nameS) := fun l n => by
    simp only [namesP, List.length_map, List.all_map]
    rfl
  simp only [hn, eachOf, portsOf, itsD, map_strOf, Bool.and_eq_true, decide_eq_true_eq, nameP, isTup, List.length_map, Bool.not_eq_true', decide_eq_false_iff_not, true_and]
  constructor
  · rintro ⟨h0, h1, ⟨h2, h3⟩, ⟨h4, h5⟩, ⟨h6, h7⟩, h8, h9, h10, h11⟩
    exact ⟨h0, h1, ⟨h3, h2⟩, ⟨h5, h4⟩, ⟨h7, h6⟩, h8, h9, h10, h11⟩
  · rintro ⟨h0, h1, ⟨h3, h2⟩, ⟨h5, h4⟩, ⟨h7, h6⟩, h8, h9, h10, h11⟩
    exact ⟨h0, h1, ⟨h2, h3⟩, ⟨h4, h5⟩, ⟨h6, h7⟩, h8, h9, h10, h11⟩
theorem stn_of {sz : Int} {v : D} (h : stationP sz v = true) : ∃ s : Stn, v = s.d ∧ StnOk sz s := by
  have h' := h
  unfold stationP at h
  split at h
  · rename_i nm c i o a b
    simp only [stationQ, Bool.and_eq_true] at h
    obtain ⟨h0, h1, h2, h3, h4, h5, _⟩ := h
    obtain ⟨il, rfl, _⟩ := names_of h2
    obtain ⟨ol, rfl, _⟩ := names_of h3
    obtain ⟨al, rfl, _⟩ := names_of h4
    cases nm with
    | str z =>
      cases c with
      | tup c =>
        cases b with
        | tup b => exact ⟨⟨z, c, il, ol, al, b⟩, rfl, (stationP_d sz ⟨z, c, il, ol, al, b⟩).mp h'⟩
        | _ => cases h5
      | _ => cases h1
    | _ => cases h0
  · cases h
theorem stns_of {sz : Int} : ∀ {ds : List D}, ds.all (stationP sz) = true → ∃ ss : List Stn, ds = ss.map Stn.d ∧ ∀ s ∈ ss, StnOk sz s
  | [], _ => ⟨[], rfl, fun _ h => nomatch h⟩
  | d :: ds, h => by
    rw [List.all_cons, Bool.and_eq_true] at h
    obtain ⟨s, rfl, hs⟩ := stn_of h.1
    obtain ⟨ss, rfl, hss⟩ := stns_of h.2
    exact ⟨s :: ss, rfl, fun t ht => by
      rcases List.mem_cons.mp ht with rfl | ht
      · exact hs
      · exact hss t ht⟩
def stationsP (sz : Int) : D → Bool
  | .tup ds => !ds.isEmpty && (ds.all (stationP sz) && decide (ds.map fun d => strOf (fstD d)).Nodup)
  | _ => false
theorem are_stations_q {S : Sto} {v : D} (h : okD S v = true) (sz : Int) : gq F_are_stations [v, .int sz] S = .ok (.bl (stationsP sz v)) S := by
  have h2 := isi_tup h
  cases v with
  | tup ds =>
    simp only [isTup] at h2
    obtain ⟨hl, hd⟩ := okD_tup h
    unfold stationsP
    cases e : ds.isEmpty with
    | true =>
      refine gq_new0 ?_ rfl
      unfold F_are_stations
      repeat (first | walk_at "ev" | simp only [h2, eqE_t, e, Bool.false_and])
    | false =>
      have m1 : mLc (mSrc (mVar 0)) (gN 2) tT (mA (gq F_is_station) (mCons (mVar 2) (mCons (mVar 1) mNil))) [2] [some (.tup ds), some (.int sz), none] S = .ok (.loc S.length) (S ++ [.lst (ds.map fun d => .bl (stationP sz d))]) :=
        mLc_map (S0 := S) (src := .items ds) ds (fun d => .bl (stationP sz d)) (by walk_at "ev") rfl (fun _ _ => rfl) (fun d hd' l => by
          refine ⟨_, rfl, ?_⟩
          have := is_station_q (okD_app (l := l) (hd d hd')) sz
          repeat (first | walk_at "ev" | simp only [this])) (le_line hl)
      obtain ⟨S1, hS1⟩ : ∃ S1, S1 = S ++ [.lst (ds.map fun d => .bl (stationP sz d))] := ⟨_, rfl⟩
      rw [← hS1] at m1
      have m2' : allD [.loc S.length] S1 = .ok (.bl (ds.all (stationP sz))) S1 := by rw [hS1]; exact all_at _ ds (at_end _ _)
      cases e2 : ds.all (stationP sz) with
      | false =>
        rw [e2] at m2'
        refine gq_new (l := [.lst (ds.map fun d => .bl (stationP sz d))]) ?_ rfl
        rw [← hS1]
        unfold F_are_stations
        repeat (first | walk_at "ev" | simp only [h2, eqE_t, e, m1, m2', e2, Bool.false_and, Bool.and_false])
      | true =>
        rw [e2] at m2'
        have hk : ∀ d ∈ ds, ∃ z r, d = .tup (.str z :: r) := fun d hd' => by
          obtain ⟨s, rfl, _⟩ := stn_of (List.all_eq_true.mp e2 d hd')
          exact ⟨_, _, rfl⟩
        have m3 : mDc false (mSrc (mVar 0)) (gN 2) tT (m2 ixD (mVar 2) (mC (.int 0))) (mC (.bl true)) [2] [some (.tup ds), some (.int sz), none] S1 = .ok (.loc S1.length) (S1 ++ [.dct (putsK (ds.map fun d => Sum.inr (strOf (fstD d))))]) := by
          refine mDc_keys (S0 := S1) (src := .items ds) ds (fun d => Sum.inr (strOf (fstD d))) fstD (by walk_at "ev") rfl (fun _ _ => rfl) (fun d hd' => ?_) (fun d hd' l => ?_) (le_line hl)
          · obtain ⟨z, r, rfl⟩ := hk d hd'
            rfl
          · obtain ⟨z, r, rfl⟩ := hk d hd'
            refine ⟨_, rfl, ?_, rfl⟩
            have : ∀ S, ixD (.tup (.str z :: r)) (.int 0) S = .ok (.str z) S := fun S => ix_tn (k := 0) S rfl
            repeat (first | walk_at "ev" | simp only [this, fstD])
        obtain ⟨S2, hS2⟩ : ∃ S2, S2 = S1 ++ [.dct (putsK (ds.map fun d => Sum.inr (strOf (fstD d))))] := ⟨_, rfl⟩
        rw [← hS2] at m3
        have m4 : lenD [.loc S1.length] S2 = .ok (.int ((putsK (ds.map fun d => (Sum.inr (strOf (fstD d)) : Key))).length : Int)) S2 := by rw [hS2]; exact len_d _ (at_end _ _)
        have hun : decide (((putsK (ds.map fun d => (Sum.inr (strOf (fstD d)) : Key))).length : Int) = ((ds.length : Nat) : Int)) = decide (ds.map fun d => strOf (fstD d)).Nodup := by
          have := uniq_len (ds.map fun d => strOf (fstD d))
          rw [List.map_map, List.length_map] at this
          exact this
        refine gq_new (l := [.lst (ds.map fun d => .bl (stationP sz d)), .dct (putsK (ds.map fun d => Sum.inr (strOf (fstD d))))]) ?_ rfl
        rw [show S ++ [MO.lst (ds.map fun d => .bl (stationP sz d)), .dct (putsK (ds.map fun d => Sum.inr (strOf (fstD d))))] = S2 by rw [hS2, hS1, List.append_assoc]; rfl]
        unfold F_are_stations
        repeat (first | walk_at "ev" | simp only [h2, eqE_t, e, m1, m2', m3, m4, hun])
        simp only [e2, Bool.true_and]
  | _ =>
    simp only [isTup] at h2
    refine gq_new0 ?_ rfl
    unfold F_are_stations
    repeat (first | walk_at "ev" | simp only [h2, stationsP])
/-! the station with a name -/
def hasN (name : D) (s : Stn) : Bool := match name with
  | .str z => decide (s.z = z)
  | _ => false
def atN (ss : List Stn) (name : D) : Option Stn := ss.find? (hasN name)
def sD : Option Stn → D
  | some s => s.d
  | none => .non
mutual
theorem okD_lt {S : Sto} : ∀ {d : D}, okD S d = true → ltD' S.length d = true
  | .non, _ | .bl _, _ | .int _, _ | .str _, _ => rfl
  | .tup ds, h => by
    simp only [okD, Bool.and_eq_true] at h
    simpa [ltD'] using okDs_lt h.2
  | .loc n, h => by
    unfold okD at h
    cases e : S[n]? with
    | none => rw [e] at h; cases h
    | some o =>
      simp only [ltD', decide_eq_true_eq]
      exact (List.getElem?_eq_some_iff.mp e).1
theorem okDs_lt {S : Sto} : ∀ {ds : List D}, okDs S ds = true → ltDs S.length ds = true
  | [], _ => rfl
  | d :: ds, h => by
    simp only [okDs, Bool.and_eq_true] at h
    simp only [ltDs, Bool.and_eq_true]
    exact ⟨okD_lt h.1, okDs_lt h.2⟩
end
def hasD (name d : D) : Bool := match name with
  | .str z => decide (strOf (fstD d) = z)
  | _ => false
theorem station_named_q {S : Sto} {ss : List Stn} {name : D} (hs : okD S (.tup (ss.map Stn.d)) = true) (h : okD S name = true) : gq F_station_named [.tup (ss.map Stn.d), name] S = .ok (sD (atN ss name)) S := by
  obtain ⟨hl, hd⟩ := okD_tup hs
  have h1 := isi_str h
  have hfil : ((ss.map Stn.d).filter (hasD name)).map id = (ss.filter (hasN name)).map Stn.d := by
    rw [List.map_id, List.filter_map]
    congr 1
  have m1 : mLc (mSrc (mVar 0)) (gN 3) (tAn (tOf (mA isiD (mCons (mVar 1) (mCons (mC (.ty "str")) mNil)))) (tOf (m2 (eqB false) (m2 ixD (mVar 3) (mC (.int 0))) (mVar 1)))) (mVar 3) [3] [some (.tup (ss.map Stn.d)), some name, none, none] S = .ok (.loc S.length) (S ++ [.lst ((ss.filter (hasN name)).map Stn.d)]) := by
    have := mLc_fm (m := mSrc (mVar 0)) (g := gN 3) (t := tAn (tOf (mA isiD (mCons (mVar 1) (mCons (mC (.ty "str")) mNil)))) (tOf (m2 (eqB false) (m2 ixD (mVar 3) (mC (.int 0))) (mVar 1)))) (e := mVar 3) (vs := [3]) (r := [some (.tup (ss.map Stn.d)), some name, none, none]) (S := S) (S0 := S) (src := .items (ss.map Stn.d)) (ss.map Stn.d) (hasD name) id (by walk_at "ev") rfl (fun _ _ => rfl) (fun d hd' l => by
      obtain ⟨s, _, rfl⟩ := List.mem_map.mp hd'
      have x0 : ∀ S, ixD s.d (.int 0) S = .ok (.str s.z) S := fun S => ix_t S rfl
      have h1' := isi_str (okD_app (l := l) h)
      refine ⟨_, rfl, ?_, fun _ => ?_⟩
      · cases name with
        | str z =>
          simp only [isStr] at h1'
          repeat (first | walk_at "ev" | simp only [h1', x0])
          rfl
        | _ =>
          simp only [isStr] at h1'
          repeat (first | walk_at "ev" | simp only [h1', hasD])
      · repeat (first | walk_at "ev" | simp only [id])) (le_line hl)
    rw [hfil] at this
    exact this
  obtain ⟨fl, hfl⟩ : ∃ fl, fl = (ss.filter (hasN name)).map Stn.d := ⟨_, rfl⟩
  rw [← hfl] at m1
  have n1 : ∀ l : Sto, (S ++ .lst fl :: l)[S.length]? = some (.lst fl) := fun l => at_end2 _ _ _
  have ea : S ++ [MO.lst fl] ++ [.lst []] = S ++ [.lst fl, .lst []] := by rw [List.append_assoc]; rfl
  have el : (S ++ [MO.lst fl]).length = S.length + 1 := by simp
  have n2 : (S ++ [MO.lst fl, .lst []])[S.length + 1]? = some (.lst []) := by
    rw [← ea, ← el]
    exact at_end _ _
  have q1 := eq0_l true (n1 [.lst []]) n2
  have hok : ltD' S.length (sD (atN ss name)) = true := by
    unfold atN
    cases e : ss.find? (hasN name) with
    | none => rfl
    | some s => exact okD_lt (hd _ (List.mem_map_of_mem (List.mem_of_find?_eq_some e)))
  refine gq_new (l := [.lst fl, .lst []]) ?_ hok
  have hh : atN ss name = (ss.filter (hasN name)).head? := (List.head?_filter ..).symm
  unfold F_station_named
  cases e : ss.filter (hasN name) with
  | nil =>
    rw [e] at hfl hh
    rw [hh]
    have : fl = [] := hfl
    subst this
    repeat (first | walk_at "ev" | simp only [m1, ea, el, q1, List.isEmpty_nil])
    rfl
  | cons s r =>
    rw [e] at hfl hh
    rw [hh]
    have q2 : ixD (.loc S.length) (.int 0) (S ++ [.lst fl, .lst []]) = .ok s.d (S ++ [.lst fl, .lst []]) := ix_l _ (n1 _) (by rw [hfl]; exact atI_nat (j := 0) rfl)
    have : fl.isEmpty = false := by rw [hfl]; rfl
    repeat (first | walk_at "ev" | simp only [m1, ea, el, q1, q2, this])
    rfl
end Lw
namespace Lw
open PySem PySem.Spec PyProof.Rows L2 Fa
local macro_rules | `(tactic| walk_at "ev") => `(tactic| simp only [bK_ok, bK_err, bK_bad, bnd_ap, ret_ap, fail_ap, mVar_ap, vK_some, mC_ap, m1_ap, m2_ap, k2_ap, mNil_ap, mCons_ap, kCons_ap, kCon_ap, mA_ap, mIf_ap, kIf_t, kIf_f, tOf_ap, isBl_ap, tNt_ap, kNt_ap, tAn_ap, kAn_t, kAn_f, tOr_ap, kOr_t, kOr_f, mNot_ap, kNot_ap, mAnd_ap, kAnd_t, kAnd_f, mOr_ap, kOrV_t, kOrV_f,
  sSeq_ap, sK_nx, sK_rt, sK_bk, sK_ct, sK_ex, sK_bad, oK_ok, oK_err, oK_bad, kNx_ap, kRt_ap, sEx_ap, sRet_ap, sRetN_ap, sNx_ap, sBad_ap, sIf_ap, kIfS_t, kIfS_f, gN_ap, gT_ap, gT_tt, gTc_ap, gT0_ap, sAs_ap, kAs_ap, kAs2_ok, sPar_ap, kPar_ap, gSubD_ap, kSub1_ap, kSub2_ap, kSub3_ap, fK_nx, fK_rt, fK_ex, mLM_ap, mRng1_ap, mRng2_ap, mSrc_ap, src_t, src_r, src_s, src_k,
  mChain_ap, kCh1_ap, kCh2_ap, kCh3_t, kCh3_f, mSl_ap, kSl1_ap, kSl2_ap, mSlT_ap, kTl1_ap, kTl2_ap, mP0_ap, mP_ap, intO_ap, sl_t, dfl_ap, mTM_ap, kTM_k, kTM_t, mMeth_ap, kMe1_ap, kMe2_ap, kMe3_ap, gFld_ap, kF1_ap, gSubA_ap, kSA1_ap, kSA2_ap, sPar3_ap, kPar3_ap, mkD_ap, mkR_ok, dct0D_ap, mDisp_ap, mPairs_nil, mPairs_cons, kPr1_ap, kPr2_ap, kPr3_ap, tuple_t, list_t, mZip_ap, zip_tt,
  wipeE, nc0, nc1, nc2, nc3, nc4, nc5, nc6, nc7, nc8, nc9, nc10, nc11, nc12, nc13, nc14, nc15, Int.reduceEq, Int.reduceLE, Int.reduceLT, Int.reduceSub, Int.reduceAdd,
  fnM_ap, tupD_ap, lstD_ap, le_line, Nat.reduceLeDiff, eq_self,
  add_ii, sub_ii, neg_i, lt_ii, le_ii, gt_ii, ge_ii, isN_n, isN_i, isN_t, isN_s, isN_b, isN_l, abs_i, max_ii, min_ii, int_i, int_b, len_t, len_r, eq_ii, eq_bb, eq_ss,
  List.map_cons, List.map_nil, List.cons_append, List.nil_append, List.append_nil, List.replicate_succ, List.replicate_zero, List.length_cons, List.length_nil, Nat.reduceSub, Nat.reduceAdd, Nat.sub_self, Nat.zero_add,
  List.getElem?_cons_succ, List.getElem?_cons_zero, List.set_cons_succ, List.set_cons_zero, Bool.not_true, Bool.not_false, decide_true, decide_false, if_true, if_false, reduceIte, Bool.false_eq_true])
def lineP (ss : List Stn) : D → Bool
  | .tup [f, o, t, i, d] => numP 0 (some 20) d && (match atN ss f, atN ss t with
    | some s, some r => namedP s.o o && namedP r.i i
    | _, _ => false)
  | _ => false
theorem isN_sd (s : Stn) (S : Sto) : isN false s.d .non S = .ok (.bl false) S := id rfl
theorem is_line_q {S : Sto} {v : D} {ss : List Stn} (hs : okD S (.tup (ss.map Stn.d)) = true) (h : okD S v = true) : gq F_is_line [v, .tup (ss.map Stn.d)] S = .ok (.bl (lineP ss v)) S := by
  have h2 := isi_tup h
  cases v with
  | tup ds =>
    simp only [isTup] at h2
    obtain ⟨hl, hd⟩ := okD_tup h
    by_cases h5 : ds.length = 5
    · match ds, h5 with
      | [f, o, t, i, d], _ =>
        have x0 : ∀ S, ixD (.tup [f, o, t, i, d]) (.int 0) S = .ok f S := fun S => ix_t S rfl
        have x1 : ∀ S, ixD (.tup [f, o, t, i, d]) (.int 1) S = .ok o S := fun S => ix_t S rfl
        have x2 : ∀ S, ixD (.tup [f, o, t, i, d]) (.int 2) S = .ok t S := fun S => ix_t S rfl
        have x3 : ∀ S, ixD (.tup [f, o, t, i, d]) (.int 3) S = .ok i S := fun S => ix_t S rfl
        have x4 : ∀ S, ixD (.tup [f, o, t, i, d]) (.int 4) S = .ok d S := fun S => ix_t S rfl
        have q1 := is_number_i (hd d (by simp)) 0 20
        have q2 := station_named_q hs (hd f (by simp))
        have q3 := station_named_q hs (hd t (by simp))
        have q4 := isi_str (hd o (by simp))
        have q5 := isi_str (hd i (by simp))
        refine gq_new0 ?_ rfl
        unfold lineP
        cases e1 : numP 0 (some 20) d with
        | false =>
          unfold F_is_line
          repeat (first | walk_at "ev" | simp only [h2, x4, q1, e1, Bool.false_and])
        | true =>
        cases e2 : atN ss f with
        | none =>
          unfold F_is_line
          rw [e2] at q2
          repeat (first | walk_at "ev" | simp only [h2, x0, x2, x4, q1, e1, q2, q3, sD, e2, Bool.true_and])
        | some s =>
        rw [e2] at q2
        cases e3 : atN ss t with
        | none =>
          unfold F_is_line
          rw [e3] at q3
          repeat (first | walk_at "ev" | simp only [h2, x0, x2, x4, q1, e1, q2, q3, sD, e2, e3, isN_sd, Bool.true_and])
        | some r =>
        rw [e3] at q3
        have y1 : ∀ S, ixD s.d (.int 3) S = .ok (.tup (s.o.map D.str)) S := fun S => ix_t S rfl
        have y2 : ∀ S, ixD r.d (.int 2) S = .ok (.tup (r.i.map D.str)) S := fun S => ix_t S rfl
        cases e4 : isStr o with
        | false =>
          unfold F_is_line
          have z : namedP s.o o = false := by cases o <;> first | rfl | (simp [isStr] at e4)
          rw [e4] at q4
          repeat (first | walk_at "ev" | simp only [h2, x0, x1, x2, x4, q1, e1, q2, q3, q4, sD, e2, e3, isN_sd, z, Bool.true_and, Bool.false_and])
        | true =>
        rw [e4] at q4
        cases e5 : isStr i with
        | false =>
          unfold F_is_line
          have z : namedP r.i i = false := by cases i <;> first | rfl | (simp [isStr] at e5)
          rw [e5] at q5
          repeat (first | walk_at "ev" | simp only [h2, x0, x1, x2, x3, x4, q1, e1, q2, q3, q4, q5, sD, e2, e3, isN_sd, z, Bool.true_and, Bool.and_false])
        | true =>
        rw [e5] at q5
        match o, i, e4, e5, q4, q5, x0, x1, x2, x3, x4, h2 with
        | .str o, .str i, _, _, q4, q5, x0, x1, x2, x3, x4, h2 =>
        have i1 := in_strs false o s.o S
        have i2 := in_strs false i r.i S
        simp only [if_neg Bool.false_ne_true] at i1 i2
        unfold F_is_line
        cases e6 : decide (o ∈ s.o) <;> rw [e6] at i1 <;> repeat (first | walk_at "ev" | simp only [h2, x0, x1, x2, x3, x4, q1, e1, q2, q3, q4, q5, sD, e2, e3, isN_sd, y1, y2, i1, i2, namedP, e6, Bool.true_and, Bool.false_and])
    · have e : decide ((ds.length : Int) = 5) = false := by simp only [decide_eq_false_iff_not]; omega
      have : lineP ss (.tup ds) = false := by
        unfold lineP
        split <;> simp_all
      refine gq_new0 ?_ rfl
      unfold F_is_line
      repeat (first | walk_at "ev" | simp only [h2, e, this])
  | _ =>
    simp only [isTup] at h2
    refine gq_new0 ?_ rfl
    unfold F_is_line
    repeat (first | walk_at "ev" | simp only [h2, lineP])
def begL : D → Str × Str
  | .tup [f, o, _, _, _] => (strOf f, strOf o)
  | _ => (⟨#[]⟩, ⟨#[]⟩)
def endL : D → Str × Str
  | .tup [_, _, t, i, _] => (strOf t, strOf i)
  | _ => (⟨#[]⟩, ⟨#[]⟩)
def linesP (ss : List Stn) : D → Bool
  | .tup ds => ds.all (lineP ss) && (decide (ds.map begL).Nodup && decide (ds.map endL).Nodup)
  | _ => false
theorem atN_str {ss : List Stn} {n : D} {s : Stn} (h : atN ss n = some s) : ∃ z, n = .str z ∧ s.z = z ∧ s ∈ ss := by
  unfold atN at h
  have h1 := List.find?_some h
  have h2 := List.mem_of_find?_eq_some h
  cases n with
  | str z => exact ⟨z, rfl, of_decide_eq_true h1, h2⟩
  | _ => cases h1
theorem line_of {ss : List Stn} {v : D} (h : lineP ss v = true) : ∃ (s r : Stn) (o i : Str) (d : Int), v = .tup [.str s.z, .str o, .str r.z, .str i, .int d] ∧ s ∈ ss ∧ r ∈ ss ∧ o ∈ s.o ∧ i ∈ r.i ∧ 0 ≤ d ∧ d ≤ 20 ∧ atN ss (.str s.z) = some s ∧ atN ss (.str r.z) = some r := by
  unfold lineP at h
  split at h
  · rename_i f o t i d
    rw [Bool.and_eq_true] at h
    obtain ⟨h1, h2⟩ := h
    split at h2
    · rename_i s r e1 e2
      rw [Bool.and_eq_true] at h2
      obtain ⟨z1, rfl, rfl, m1⟩ := atN_str e1
      obtain ⟨z2, rfl, rfl, m2⟩ := atN_str e2
      cases o with
      | str o =>
        cases i with
        | str i =>
          cases d with
          | int d =>
            simp only [numP, Bool.and_eq_true, decide_eq_true_eq] at h1
            exact ⟨s, r, o, i, d, rfl, m1, m2, of_decide_eq_true h2.1, of_decide_eq_true h2.2, h1.1, h1.2, e1, e2⟩
          | _ => cases h1
        | _ => cases h2.2
      | _ => cases h2.1
    · cases h2
  · cases h
theorem nodup_keys2 (l : List (Str × Str)) : (l.map fun p => ([Sum.inr p.1, Sum.inr p.2] : List Key)).Nodup ↔ l.Nodup := by
  unfold List.Nodup
  rw [List.pairwise_map]
  refine ⟨fun h => h.imp fun hab e => hab (by rw [e]), fun h => h.imp fun {a b} hab e => hab ?_⟩
  injection e with e1 e2
  injection e1 with e1
  injection e2 with e2
  injection e2 with e2
  exact Prod.ext e1 e2
theorem uniq_len2 (l : List (Str × Str)) : decide (((putsK (l.map fun p => ([Sum.inr p.1, Sum.inr p.2] : List Key))).length : Int) = (l.length : Int)) = decide l.Nodup := by
  have h := (putsK_len (l.map fun p => ([Sum.inr p.1, Sum.inr p.2] : List Key))).1
  rw [List.length_map, nodup_keys2] at h
  by_cases hn : l.Nodup
  · have := h.mpr hn
    rw [decide_eq_true hn, decide_eq_true (by omega)]
  · rw [decide_eq_false hn, decide_eq_false (fun z => hn (h.mp (by omega)))]
theorem are_lines_q {S : Sto} {v : D} {ss : List Stn} (hs : okD S (.tup (ss.map Stn.d)) = true) (h : okD S v = true) : gq F_are_lines_of [v, .tup (ss.map Stn.d)] S = .ok (.bl (linesP ss v)) S := by
  have h2 := isi_tup h
  cases v with
  | tup ds =>
    simp only [isTup] at h2
    obtain ⟨hl, hd⟩ := okD_tup h
    have m1 : mLc (mSrc (mVar 0)) (gN 4) tT (mA (gq F_is_line) (mCons (mVar 4) (mCons (mVar 1) mNil))) [4] [some (.tup ds), some (.tup (ss.map Stn.d)), none, none, none] S = .ok (.loc S.length) (S ++ [.lst (ds.map fun d => .bl (lineP ss d))]) :=
      mLc_map (S0 := S) (src := .items ds) ds (fun d => .bl (lineP ss d)) (by walk_at "ev") rfl (fun _ _ => rfl) (fun d hd' l => by
        refine ⟨_, rfl, ?_⟩
        have := is_line_q (okD_app (l := l) hs) (okD_app (l := l) (hd d hd'))
        repeat (first | walk_at "ev" | simp only [this])) (le_line hl)
    obtain ⟨S1, hS1⟩ : ∃ S1, S1 = S ++ [.lst (ds.map fun d => .bl (lineP ss d))] := ⟨_, rfl⟩
    rw [← hS1] at m1
    have m2' : allD [.loc S.length] S1 = .ok (.bl (ds.all (lineP ss))) S1 := by rw [hS1]; exact all_at _ ds (at_end _ _)
    unfold linesP
    cases e2 : ds.all (lineP ss) with
    | false =>
      rw [e2] at m2'
      refine gq_new (l := [.lst (ds.map fun d => .bl (lineP ss d))]) ?_ rfl
      rw [← hS1]
      unfold F_are_lines_of
      repeat (first | walk_at "ev" | simp only [h2, m1, m2', e2, Bool.false_and])
    | true =>
      rw [e2] at m2'
      have hk : ∀ d ∈ ds, ∃ (a b c e : Str) (n : Int), d = .tup [.str a, .str b, .str c, .str e, .int n] := fun d hd' => by
        obtain ⟨s, r, o, i, n, rfl, _⟩ := line_of (List.all_eq_true.mp e2 d hd')
        exact ⟨_, _, _, _, _, rfl⟩
      have m3 : mDc true (mSrc (mVar 0)) (gN 4) tT (mSlT (mVar 4) mP0 (mP (mC (.int 2)))) (mC (.bl true)) [4] [some (.tup ds), some (.tup (ss.map Stn.d)), none, none, none] S1 = .ok (.loc S1.length) (S1 ++ [.dcT (putsK (ds.map fun d => [Sum.inr (begL d).1, Sum.inr (begL d).2]))]) := by
        refine mDcT_keys (S0 := S1) (src := .items ds) ds (fun d => [Sum.inr (begL d).1, Sum.inr (begL d).2]) (fun d => [.str (begL d).1, .str (begL d).2]) (by walk_at "ev") rfl (fun _ _ => rfl) (fun d hd' => rfl) (fun d hd' l => ?_) (le_line hl)
        obtain ⟨a, b, c, e, n, rfl⟩ := hk d hd'
        refine ⟨_, rfl, ?_, rfl⟩
        have : ∀ S, slT (.tup [.str a, .str b, .str c, .str e, .int n]) none (some 2) S = .ok (.ttp [.str a, .str b]) S := fun S => rfl
        repeat (first | walk_at "ev" | simp only [this])
        rfl
      obtain ⟨S2, hS2⟩ : ∃ S2, S2 = S1 ++ [.dcT (putsK (ds.map fun d => [Sum.inr (begL d).1, Sum.inr (begL d).2]))] := ⟨_, rfl⟩
      rw [← hS2] at m3
      have m4 : mDc true (mSrc (mVar 0)) (gN 4) tT (mSlT (mVar 4) (mP (mC (.int 2))) (mP (mC (.int 4)))) (mC (.bl true)) [4] [some (.tup ds), some (.tup (ss.map Stn.d)), none, none, none] S2 = .ok (.loc S2.length) (S2 ++ [.dcT (putsK (ds.map fun d => [Sum.inr (endL d).1, Sum.inr (endL d).2]))]) := by
        refine mDcT_keys (S0 := S2) (src := .items ds) ds (fun d => [Sum.inr (endL d).1, Sum.inr (endL d).2]) (fun d => [.str (endL d).1, .str (endL d).2]) (by walk_at "ev") rfl (fun _ _ => rfl) (fun d hd' => rfl) (fun d hd' l => ?_) (le_line hl)
        obtain ⟨a, b, c, e, n, rfl⟩ := hk d hd'
        refine ⟨_, rfl, ?_, rfl⟩
        have : ∀ S, slT (.tup [.str a, .str b, .str c, .str e, .int n]) (some 2) (some 4) S = .ok (.ttp [.str c, .str e]) S := fun S => rfl
        repeat (first | walk_at "ev" | simp only [this])
        rfl
      obtain ⟨S3, hS3⟩ : ∃ S3, S3 = S2 ++ [.dcT (putsK (ds.map fun d => [Sum.inr (endL d).1, Sum.inr (endL d).2]))] := ⟨_, rfl⟩
      rw [← hS3] at m4
      have n1 : lenD [.loc S1.length] S3 = .ok (.int ((putsK (ds.map fun d => ([Sum.inr (begL d).1, Sum.inr (begL d).2] : List Key))).length : Int)) S3 := by
        rw [hS3]
        exact len_dT _ (at_old (by rw [hS2]; exact at_end _ _))
      have n2 : lenD [.loc S2.length] S3 = .ok (.int ((putsK (ds.map fun d => ([Sum.inr (endL d).1, Sum.inr (endL d).2] : List Key))).length : Int)) S3 := by
        rw [hS3]
        exact len_dT _ (at_end _ _)
      have u1 : decide (((putsK (ds.map fun d => ([Sum.inr (begL d).1, Sum.inr (begL d).2] : List Key))).length : Int) = ((ds.length : Nat) : Int)) = decide (ds.map begL).Nodup := by
        have := uniq_len2 (ds.map begL)
        rw [List.map_map, List.length_map] at this
        exact this
      have u2 : decide (((putsK (ds.map fun d => ([Sum.inr (endL d).1, Sum.inr (endL d).2] : List Key))).length : Int) = ((ds.length : Nat) : Int)) = decide (ds.map endL).Nodup := by
        have := uniq_len2 (ds.map endL)
        rw [List.map_map, List.length_map] at this
        exact this
      refine gq_new (l := [.lst (ds.map fun d => .bl (lineP ss d)), .dcT (putsK (ds.map fun d => [Sum.inr (begL d).1, Sum.inr (begL d).2])), .dcT (putsK (ds.map fun d => [Sum.inr (endL d).1, Sum.inr (endL d).2]))]) ?_ rfl
      rw [show S ++ [MO.lst (ds.map fun d => .bl (lineP ss d)), .dcT (putsK (ds.map fun d => [Sum.inr (begL d).1, Sum.inr (begL d).2])), .dcT (putsK (ds.map fun d => [Sum.inr (endL d).1, Sum.inr (endL d).2]))] = S3 by rw [hS3, hS2, hS1, List.append_assoc, List.append_assoc]; rfl]
      unfold F_are_lines_of
      cases e3 : decide (ds.map begL).Nodup <;> rw [e3] at u1 <;> repeat (first | walk_at "ev" | simp only [h2, m1, m2', m3, m4, n1, n2, u1, u2, Bool.true_and, Bool.false_and, e2, e3])
  | _ =>
    simp only [isTup] at h2
    refine gq_new0 ?_ rfl
    unfold F_are_lines_of
    repeat (first | walk_at "ev" | simp only [h2, linesP])
end Lw
namespace Lw
open PySem PySem.Spec PyProof.Rows L2 Fa
local macro_rules | `(tactic| walk_at "ev") => `(tactic| simp only [bK_ok, bK_err, bK_bad, bnd_ap, ret_ap, fail_ap, mVar_ap, vK_some, mC_ap, m1_ap, m2_ap, k2_ap, mNil_ap, mCons_ap, kCons_ap, kCon_ap, mA_ap, mIf_ap, kIf_t, kIf_f, tOf_ap, isBl_ap, tNt_ap, kNt_ap, tAn_ap, kAn_t, kAn_f, tOr_ap, kOr_t, kOr_f, mNot_ap, kNot_ap, mAnd_ap, kAnd_t, kAnd_f, mOr_ap, kOrV_t, kOrV_f,
  sSeq_ap, sK_nx, sK_rt, sK_bk, sK_ct, sK_ex, sK_bad, oK_ok, oK_err, oK_bad, kNx_ap, kRt_ap, sEx_ap, sRet_ap, sRetN_ap, sNx_ap, sBad_ap, sIf_ap, kIfS_t, kIfS_f, gN_ap, gT_ap, gT_tt, gTc_ap, gT0_ap, sAs_ap, kAs_ap, kAs2_ok, sPar_ap, kPar_ap, gSubD_ap, kSub1_ap, kSub2_ap, kSub3_ap, fK_nx, fK_rt, fK_ex, mLM_ap, mRng1_ap, mRng2_ap, mSrc_ap, src_t, src_r, src_s, src_k,
  mChain_ap, kCh1_ap, kCh2_ap, kCh3_t, kCh3_f, mSl_ap, kSl1_ap, kSl2_ap, mSlT_ap, kTl1_ap, kTl2_ap, mP0_ap, mP_ap, intO_ap, sl_t, dfl_ap, mTM_ap, kTM_k, kTM_t, mMeth_ap, kMe1_ap, kMe2_ap, kMe3_ap, gFld_ap, kF1_ap, gSubA_ap, kSA1_ap, kSA2_ap, sPar3_ap, kPar3_ap, mkD_ap, mkR_ok, dct0D_ap, mDisp_ap, mPairs_nil, mPairs_cons, kPr1_ap, kPr2_ap, kPr3_ap, tuple_t, list_t, mZip_ap, zip_tt,
  wipeE, nc0, nc1, nc2, nc3, nc4, nc5, nc6, nc7, nc8, nc9, nc10, nc11, nc12, nc13, nc14, nc15, Int.reduceEq, Int.reduceLE, Int.reduceLT, Int.reduceSub, Int.reduceAdd,
  fnM_ap, tupD_ap, lstD_ap, le_line, Nat.reduceLeDiff, eq_self,
  add_ii, sub_ii, neg_i, lt_ii, le_ii, gt_ii, ge_ii, isN_n, isN_i, isN_t, isN_s, isN_b, isN_l, abs_i, max_ii, min_ii, int_i, int_b, len_t, len_r, eq_ii, eq_bb, eq_ss,
  List.map_cons, List.map_nil, List.cons_append, List.nil_append, List.append_nil, List.replicate_succ, List.replicate_zero, List.length_cons, List.length_nil, Nat.reduceSub, Nat.reduceAdd, Nat.sub_self, Nat.zero_add,
  List.getElem?_cons_succ, List.getElem?_cons_zero, List.set_cons_succ, List.set_cons_zero, Bool.not_true, Bool.not_false, decide_true, decide_false, if_true, if_false, reduceIte, Bool.false_eq_true])
def pD (p : Str × Str) : D := .tup [.str p.1, .str p.2]
def sOk (x : Str) : Bool := PyData.canLay0 (.str x)
theorem letC_lt : ∀ c ∈ letC, c < 0x110000 := by
  have : letC.all (fun c => decide (c < 0x110000)) = true := by decide +kernel
  intro c hc
  exact of_decide_eq_true (List.all_eq_true.mp this c hc)
theorem sOk_name {z : Str} (h : nameS z = true) : sOk z = true := by
  unfold nameS at h
  rw [Bool.and_eq_true] at h
  have h2 := h.2
  show PyData.canLay0 (.str z) = true
  simp only [PyData.canLay0]
  unfold PyData.strOk
  rw [← Array.all_toList, List.all_eq_true]
  intro c hc
  have := of_decide_eq_true (List.all_eq_true.mp h2 c hc)
  exact decide_eq_true (letC_lt c this)
def pP (p : Str × Str) : PyData := .tuple [.str p.1, .str p.2]
theorem snapL_pairs (S : Sto) (n : Nat) : ∀ ends : List (Str × Str), snapL (snap S (n + 2)) (ends.map pD) = some (ends.map pP)
  | [] => rfl
  | p :: ends => by
    show (match snap S (n + 2) (pD p), snapL (snap S (n + 2)) (ends.map pD) with
      | some a, some as => some (a :: as)
      | _, _ => none) = _
    rw [snapL_pairs S n ends]
    rfl
theorem pairs_lay : ∀ {ends : List (Str × Str)}, (∀ p ∈ ends, sOk p.1 = true ∧ sOk p.2 = true) → PyData.canLayAll0 (ends.map pP) = true ∧ PyData.depthAll (ends.map pP) ≤ 1
  | [], _ => ⟨rfl, by decide⟩
  | p :: ends, h => by
    obtain ⟨h1, h2⟩ := pairs_lay (ends := ends) fun q hq => h q (List.mem_cons_of_mem _ hq)
    obtain ⟨s1, s2⟩ := h p (by simp)
    constructor
    · show (PyData.canLay0 (pP p) && PyData.canLayAll0 (ends.map pP)) = true
      rw [h1, Bool.and_true]
      show (PyData.canLay0 (.str p.1) && (PyData.canLay0 (.str p.2) && true)) = true
      rw [show PyData.canLay0 (.str p.1) = true from s1, show PyData.canLay0 (.str p.2) = true from s2]
      rfl
    · show max (PyData.depth (pP p)) (PyData.depthAll (ends.map pP)) ≤ 1
      exact Nat.max_le.mpr ⟨Nat.le_refl 1, h2⟩
theorem in_pairs {S : Sto} {n : Nat} {ends : List (Str × Str)} {a b : Str} (neg : Bool) (h : S[n]? = some (.lst (ends.map pD))) (ha : sOk a = true) (hb : sOk b = true) (he : ∀ p ∈ ends, sOk p.1 = true ∧ sOk p.2 = true) :
    inD neg (.tup [.str a, .str b]) (.loc n) S = .ok (.bl (if neg then !decide ((a, b) ∈ ends) else decide ((a, b) ∈ ends))) S := by
  have s1 : snap S 40 (.tup [.str a, .str b]) = some (pP (a, b)) := rfl
  have s2 : snap S 40 (.loc n) = some (.list (ends.map pP)) := by
    show (match S[n]? with
      | some (.lst ds) => (snapL (snap S 39) ds).map PyData.list
      | _ => none) = _
    rw [h]
    show (snapL (snap S 39) (ends.map pD)).map PyData.list = _
    rw [snapL_pairs S 37 ends]
    rfl
  have h1 : SeqAt.shaped (pP (a, b)) = true := by
    have := (pairs_lay (ends := [(a, b)]) (fun p hp => by simp at hp; subst hp; exact ⟨ha, hb⟩)).1
    have : PyData.canLay0 (pP (a, b)) = true := by
      have z : (PyData.canLay0 (pP (a, b)) && true) = true := this
      rwa [Bool.and_true] at z
    unfold SeqAt.shaped
    rw [this]
    rfl
  have h2 : SeqAt.shaped (.list (ends.map pP)) = true := by
    obtain ⟨z1, z2⟩ := pairs_lay he
    unfold SeqAt.shaped
    rw [show PyData.canLay0 (.list (ends.map pP)) = true from z1, Bool.true_and]
    apply decide_eq_true
    show PyData.depthAll (ends.map pP) + 1 ≤ 64
    omega
  have h3 : ((ends.map pP).any fun z => PyData.eqv z (pP (a, b))) = decide ((a, b) ∈ ends) := by
    clear s2 h2 he h
    induction ends with
    | nil => simp
    | cons p ends ih =>
      rw [List.map_cons, List.any_cons, ih]
      have : PyData.eqv (pP p) (pP (a, b)) = decide (p = (a, b)) := by
        show ((p.1 == a) && ((p.2 == b) && true)) = _
        by_cases hp : p = (a, b)
        · subst hp
          simp
        · rw [decide_eq_false hp]
          by_cases h1 : p.1 = a
          · have h2 : ¬ p.2 = b := fun z => hp (Prod.ext h1 z)
            simp [h1, h2]
          · simp [h1]
      rw [this]
      by_cases hp : p = (a, b)
      · subst hp
        simp
      · have : ¬ (a, b) = p := fun z => hp z.symm
        simp [hp, this]
  show (match flat1 (.tup [.str a, .str b]), (itemsOf S (.loc n)).bind flats with
    | some v, some vs => Res.ok (D.bl (if neg then !inV v vs else inV v vs)) S
    | _, _ => match snap S 40 (.tup [.str a, .str b]), snap S 40 (.loc n) with
      | some d, some (.list ds) => if (SeqAt.shaped d && SeqAt.shaped (.list ds)) = true then .ok (.bl (if neg then !(ds.any fun z => PyData.eqv z d) else ds.any fun z => PyData.eqv z d)) S else .bad
      | _, _ => .bad) = _
  rw [s1, s2]
  show (if (SeqAt.shaped (pP (a, b)) && SeqAt.shaped (.list (ends.map pP))) = true then Res.ok (D.bl (if neg then !((ends.map pP).any fun z => PyData.eqv z (pP (a, b))) else (ends.map pP).any fun z => PyData.eqv z (pP (a, b)))) S else Res.bad) = _
  rw [h1, h2, h3]
  rfl
def firstP (ss : List Stn) (sz : Int) (ends : List (Str × Str)) : D → Bool
  | .tup [t, n, p, w] => numP 0 none t && (match atN ss n, p with
    | some s, .str q => if q ∈ s.a then numP 0 (some 0) w else decide (q ∈ s.i) && (!decide ((s.z, q) ∈ ends) && numP 0 (some (sz - 1)) w)
    | _, _ => false)
  | _ => false
theorem is_first_q {S : Sto} {v : D} {ss : List Stn} {sz : Int} {ends : List (Str × Str)} {n : Nat} (hs : okD S (.tup (ss.map Stn.d)) = true) (hss : ∀ s ∈ ss, nameS s.z = true ∧ s.i.all nameS = true) (he : S[n]? = some (.lst (ends.map pD))) (hen : ∀ p ∈ ends, sOk p.1 = true ∧ sOk p.2 = true) (h : okD S v = true) :
    gq F_is_first [v, .int sz, .tup (ss.map Stn.d), .loc n] S = .ok (.bl (firstP ss sz ends v)) S := by
  have h2 := isi_tup h
  cases v with
  | tup ds =>
    simp only [isTup] at h2
    obtain ⟨hl, hd⟩ := okD_tup h
    by_cases h4 : ds.length = 4
    · match ds, h4 with
      | [t, nm, p, w], _ =>
        have x0 : ∀ S, ixD (.tup [t, nm, p, w]) (.int 0) S = .ok t S := fun S => ix_t S rfl
        have q1 := is_number_n (hd t (by simp)) 0
        have q2 := station_named_q hs (hd nm (by simp))
        have q4 := isi_str (hd p (by simp))
        have q5 := is_number_i (hd w (by simp)) 0 0
        have q6 := is_number_i (hd w (by simp)) 0 (sz - 1)
        refine gq_new0 ?_ rfl
        unfold firstP
        cases e1 : numP 0 none t with
        | false =>
          unfold F_is_first
          repeat (first | walk_at "ev" | simp only [h2, x0, q1, e1, Bool.false_and])
        | true =>
        cases e2 : atN ss nm with
        | none =>
          unfold F_is_first
          rw [e2] at q2
          repeat (first | walk_at "ev" | simp only [h2, x0, q1, e1, q2, sD, e2, Bool.true_and])
        | some s =>
        rw [e2] at q2
        obtain ⟨z, rfl, hz, hm⟩ := atN_str e2
        obtain ⟨hn1, hn2⟩ := hss s hm
        have y4 : ∀ S, ixD s.d (.int 4) S = .ok (.tup (s.a.map D.str)) S := fun S => ix_t S rfl
        have y2 : ∀ S, ixD s.d (.int 2) S = .ok (.tup (s.i.map D.str)) S := fun S => ix_t S rfl
        cases p with
        | str q =>
          simp only [isStr] at q4
          have i1 := in_strs false q s.a S
          have i2 := in_strs false q s.i S
          simp only [if_neg Bool.false_ne_true] at i1 i2
          by_cases e3 : q ∈ s.a
          · rw [decide_eq_true e3] at i1
            unfold F_is_first
            repeat (first | walk_at "ev" | simp only [h2, x0, q1, e1, q2, sD, e2, isN_sd, q4, y4, i1, q5, e3, Bool.true_and])
          · rw [decide_eq_false e3] at i1
            by_cases e4 : q ∈ s.i
            · rw [decide_eq_true e4] at i2
              have i3 := in_pairs true he (sOk_name hn1) (sOk_name (List.all_eq_true.mp hn2 q e4)) hen
              rw [if_pos rfl, hz] at i3
              unfold F_is_first
              cases e5 : decide ((z, q) ∈ ends) <;> rw [e5] at i3 <;> repeat (first | walk_at "ev" | simp only [h2, x0, q1, e1, q2, sD, e2, isN_sd, q4, y4, i1, y2, i2, i3, q6, e3, e4, e5, hz, Bool.true_and, Bool.false_and])
            · rw [decide_eq_false e4] at i2
              unfold F_is_first
              repeat (first | walk_at "ev" | simp only [h2, x0, q1, e1, q2, sD, e2, isN_sd, q4, y4, i1, y2, i2, e3, e4, Bool.true_and, Bool.false_and])
        | _ =>
          simp only [isStr] at q4
          unfold F_is_first
          repeat (first | walk_at "ev" | simp only [h2, x0, q1, e1, q2, sD, e2, isN_sd, q4, Bool.true_and])
    · have e : decide ((ds.length : Int) = 4) = false := by simp only [decide_eq_false_iff_not]; omega
      have : firstP ss sz ends (.tup ds) = false := by
        unfold firstP
        split <;> simp_all
      refine gq_new0 ?_ rfl
      unfold F_is_first
      repeat (first | walk_at "ev" | simp only [h2, e, this])
  | _ =>
    simp only [isTup] at h2
    refine gq_new0 ?_ rfl
    unfold F_is_first
    repeat (first | walk_at "ev" | simp only [h2, firstP])
def isBell (ss : List Stn) : D → Bool
  | .tup [_, n, p, _] => match atN ss n with
    | some s => namedP s.a p
    | none => false
  | _ => false
def bellK : D → Str × Str
  | .tup [_, n, p, _] => (strOf n, strOf p)
  | _ => (⟨#[]⟩, ⟨#[]⟩)
def firstsP (ss : List Stn) (sz : Int) (ends : List (Str × Str)) : D → Bool
  | .tup ds => ds.all (firstP ss sz ends) && decide ((ds.filter (isBell ss)).map bellK).Nodup
  | _ => false
theorem first_of {ss : List Stn} {sz : Int} {ends : List (Str × Str)} {v : D} (h : firstP ss sz ends v = true) : ∃ (t w : Int) (s : Stn) (q : Str), v = .tup [.int t, .str s.z, .str q, .int w] ∧ atN ss (.str s.z) = some s ∧ s ∈ ss ∧ 0 ≤ t := by
  unfold firstP at h
  split at h
  · rename_i t n p w
    rw [Bool.and_eq_true] at h
    obtain ⟨h1, h2⟩ := h
    split at h2
    · rename_i s q e1
      obtain ⟨z, rfl, rfl, hm⟩ := atN_str e1
      cases t with
      | int t =>
        simp only [numP, Bool.and_true, decide_eq_true_eq] at h1
        have hw : ∃ i, w = .int i := by
          split at h2
          · cases w <;> first | exact ⟨_, rfl⟩ | cases h2
          · rw [Bool.and_eq_true, Bool.and_eq_true] at h2
            have := h2.2.2
            cases w <;> first | exact ⟨_, rfl⟩ | cases this
        obtain ⟨w, rfl⟩ := hw
        exact ⟨t, w, s, q, rfl, e1, hm, h1⟩
      | _ => cases h1
    · cases h2
  · cases h
theorem are_firsts_q {S : Sto} {v : D} {ss : List Stn} {sz : Int} {ls : List D} (hs : okD S (.tup (ss.map Stn.d)) = true) (hss : ∀ s ∈ ss, nameS s.z = true ∧ s.i.all nameS = true) (hls : ls.all (lineP ss) = true) (hll : ls.length ≤ 1000) (h : okD S v = true) :
    gq F_are_firsts [v, .int sz, .tup (ss.map Stn.d), .tup ls] S = .ok (.bl (firstsP ss sz (ls.map endL) v)) S := by
  have hk : ∀ d ∈ ls, ∃ (a b c e : Str) (n : Int), d = .tup [.str a, .str b, .str c, .str e, .int n] ∧ sOk c = true ∧ sOk e = true := fun d hd' => by
    obtain ⟨s, r, o, i, n, rfl, _, h2, _, h3, _⟩ := line_of (List.all_eq_true.mp hls d hd')
    exact ⟨_, _, _, _, _, rfl, sOk_name (hss r h2).1, sOk_name (List.all_eq_true.mp (hss r h2).2 i h3)⟩
  obtain ⟨ends, hends⟩ : ∃ ends, ends = ls.map endL := ⟨_, rfl⟩
  have hen : ∀ p ∈ ends, sOk p.1 = true ∧ sOk p.2 = true := fun p hp => by
    rw [hends] at hp
    obtain ⟨d, hd, rfl⟩ := List.mem_map.mp hp
    obtain ⟨a, b, c, e, n, rfl, z1, z2⟩ := hk d hd
    exact ⟨z1, z2⟩
  have m0 : mLc (mSrc (mVar 3)) (gN 6) tT (mSl (mVar 6) (mP (mC (.int 2))) (mP (mC (.int 4)))) [6] [some v, some (.int sz), some (.tup (ss.map Stn.d)), some (.tup ls), none, none, none, none, none, none, none, none, none] S = .ok (.loc S.length) (S ++ [.lst (ends.map pD)]) := by
    have := mLc_map (m := mSrc (mVar 3)) (g := gN 6) (e := mSl (mVar 6) (mP (mC (.int 2))) (mP (mC (.int 4)))) (vs := [6]) (r := [some v, some (.int sz), some (.tup (ss.map Stn.d)), some (.tup ls), none, none, none, none, none, none, none, none, none]) (S := S) (S0 := S) (src := .items ls) ls (fun d => pD (endL d)) (by walk_at "ev") rfl (fun _ _ => rfl) (fun d hd' l => by
      obtain ⟨a, b, c, e, n, rfl, _⟩ := hk d hd'
      refine ⟨_, rfl, ?_⟩
      have : cutD [.str a, .str b, .str c, .str e, .int n] (some 2) (some 4) = [.str c, .str e] := rfl
      repeat (first | walk_at "ev" | simp only [this])
      rfl) (le_line hll)
    rw [this, hends, List.map_map]
    rfl
  rw [← hends]
  obtain ⟨S1, hS1⟩ : ∃ S1, S1 = S ++ [.lst (ends.map pD)] := ⟨_, rfl⟩
  rw [← hS1] at m0
  have he : S1[S.length]? = some (.lst (ends.map pD)) := by rw [hS1]; exact at_end _ _
  have hv1 : okD S1 v = true := by rw [hS1]; exact okD_app h
  have hs1 : okD S1 (.tup (ss.map Stn.d)) = true := by rw [hS1]; exact okD_app hs
  have h2 := isi_tup hv1
  cases v with
  | tup ds =>
    simp only [isTup] at h2
    obtain ⟨hl, hd⟩ := okD_tup hv1
    unfold firstsP
    have m1 : mLc (mSrc (mVar 0)) (gN 12) tT (mA (gq F_is_first) (mCons (mVar 12) (mCons (mVar 1) (mCons (mVar 2) (mCons (mVar 4) mNil))))) [12] [some (.tup ds), some (.int sz), some (.tup (ss.map Stn.d)), some (.tup ls), some (.loc S.length), none, none, none, none, none, none, none, none] S1 = .ok (.loc S1.length) (S1 ++ [.lst (ds.map fun d => .bl (firstP ss sz ends d))]) :=
      mLc_map (S0 := S1) (src := .items ds) ds (fun d => .bl (firstP ss sz ends d)) (by walk_at "ev") rfl (fun _ _ => rfl) (fun d hd' l => by
        refine ⟨_, rfl, ?_⟩
        have := is_first_q (sz := sz) (okD_app (l := l) hs1) hss (at_old he) hen (okD_app (l := l) (hd d hd'))
        repeat (first | walk_at "ev" | simp only [this])) (le_line hl)
    obtain ⟨S2, hS2⟩ : ∃ S2, S2 = S1 ++ [.lst (ds.map fun d => .bl (firstP ss sz ends d))] := ⟨_, rfl⟩
    rw [← hS2] at m1
    have m2' : allD [.loc S1.length] S2 = .ok (.bl (ds.all (firstP ss sz ends))) S2 := by rw [hS2]; exact all_at _ ds (at_end _ _)
    cases e2 : ds.all (firstP ss sz ends) with
    | false =>
      rw [e2] at m2'
      refine gq_new (l := [.lst (ends.map pD), .lst (ds.map fun d => .bl (firstP ss sz ends d))]) ?_ rfl
      rw [show S ++ [MO.lst (ends.map pD), .lst (ds.map fun d => .bl (firstP ss sz ends d))] = S2 by rw [hS2, hS1, List.append_assoc]; rfl]
      unfold F_are_firsts
      repeat (first | walk_at "ev" | simp only [m0, h2, m1, m2', e2, Bool.false_and])
    | true =>
      rw [e2] at m2'
      have hf : ∀ d ∈ ds, ∃ (t w : Int) (s : Stn) (q : Str), d = .tup [.int t, .str s.z, .str q, .int w] ∧ atN ss (.str s.z) = some s := fun d hd' => by
        obtain ⟨t, w, s, q, h1, h2, _⟩ := first_of (List.all_eq_true.mp e2 d hd')
        exact ⟨t, w, s, q, h1, h2⟩
      have hs2 : okD S2 (.tup (ss.map Stn.d)) = true := by rw [hS2]; exact okD_app hs1
      obtain ⟨bs, hbs⟩ : ∃ bs : List (Str × Str), bs = (ds.filter (isBell ss)).map bellK := ⟨_, rfl⟩
      have m3 : mLc (mSrc (mVar 0)) (gT (gTc (gN 7) (gTc (gN 8) (gTc (gN 9) (gTc (gN 10) gT0))))) (tOf (m2 (inD false) (mVar 9) (m2 ixD (mA (gq F_station_named) (mCons (mVar 2) (mCons (mVar 8) mNil))) (mC (.int 4))))) (mA tupT (mCons (mVar 8) (mCons (mVar 9) mNil))) [7, 8, 9, 10] [some (.tup ds), some (.int sz), some (.tup (ss.map Stn.d)), some (.tup ls), some (.loc S.length), none, none, none, none, none, none, none, none] S2
          = .ok (.loc S2.length) (S2 ++ [.lst (bs.map fun p => .ttp [.str p.1, .str p.2])]) := by
        have := mLc_fm (m := mSrc (mVar 0)) (g := gT (gTc (gN 7) (gTc (gN 8) (gTc (gN 9) (gTc (gN 10) gT0))))) (t := tOf (m2 (inD false) (mVar 9) (m2 ixD (mA (gq F_station_named) (mCons (mVar 2) (mCons (mVar 8) mNil))) (mC (.int 4))))) (e := mA tupT (mCons (mVar 8) (mCons (mVar 9) mNil))) (vs := [7, 8, 9, 10]) (r := [some (.tup ds), some (.int sz), some (.tup (ss.map Stn.d)), some (.tup ls), some (.loc S.length), none, none, none, none, none, none, none, none])
          (S := S2) (S0 := S2) (src := .items ds) ds (isBell ss) (fun d => .ttp [.str (bellK d).1, .str (bellK d).2]) (by walk_at "ev") rfl (fun _ _ => rfl) (fun d hd' l => by
            obtain ⟨t, w, s, q, rfl, e3⟩ := hf d hd'
            have q2 := station_named_q (okD_app (l := l) hs2) (name := .str s.z) (by
              have := hd _ hd'
              rw [hS2]
              exact okD_app (okD_app ((okD_tup this).2 _ (by simp))))
            rw [e3] at q2
            have y4 : ∀ S, ixD s.d (.int 4) S = .ok (.tup (s.a.map D.str)) S := fun S => ix_t S rfl
            have i1 := in_strs false q s.a (S2 ++ l)
            simp only [if_neg Bool.false_ne_true] at i1
            refine ⟨_, rfl, ?_, fun _ => ?_⟩
            · repeat (first | walk_at "ev" | simp only [q2, sD, y4, i1])
              simp only [isBell, e3, namedP]
            · have : ∀ S, tupT [.str s.z, .str q] S = .ok (.ttp [.str s.z, .str q]) S := fun S => by
                unfold tupT
                rw [if_pos (show [D.str s.z, D.str q].length ≤ sizeLine from le_line (n := 2) (by decide))]
                rfl
              repeat (first | walk_at "ev" | simp only [this])
              rfl) (le_line hl)
        rw [this, hbs, List.map_map]
        rfl
      obtain ⟨S3, hS3⟩ : ∃ S3, S3 = S2 ++ [.lst (bs.map fun p => .ttp [.str p.1, .str p.2])] := ⟨_, rfl⟩
      rw [← hS3] at m3
      have a3 : S3[S2.length]? = some (.lst (bs.map fun p => .ttp [.str p.1, .str p.2])) := by rw [hS3]; exact at_end _ _
      have lbs : bs.length ≤ 1000 := by
        rw [hbs, List.length_map]
        exact Nat.le_trans (List.length_filter_le _ _) hl
      have kb : ∀ d ∈ bs.map (fun p => D.ttp [.str p.1, .str p.2]), ∃ p : Str × Str, d = .ttp [.str p.1, .str p.2] := fun d hd' => by
        obtain ⟨p, _, rfl⟩ := List.mem_map.mp hd'
        exact ⟨p, rfl⟩
      let kf : D → List Key := fun d => match d with
        | .ttp [.str a, .str b] => [Sum.inr a, Sum.inr b]
        | _ => []
      let kd : D → List D := fun d => match d with
        | .ttp ds => ds
        | _ => []
      have m4 : mDc true (mSrc (mVar 5)) (gN 11) tT (mVar 11) (mC (.bl true)) [11] [some (.tup ds), some (.int sz), some (.tup (ss.map Stn.d)), some (.tup ls), some (.loc S.length), some (.loc S2.length), none, none, none, none, none, none, none] S3 = .ok (.loc S3.length) (S3 ++ [.dcT (putsK (bs.map fun p => [Sum.inr p.1, Sum.inr p.2]))]) := by
        have := mDcT_keys (m := mSrc (mVar 5)) (g := gN 11) (ek := mVar 11) (ev := mC (.bl true)) (vs := [11]) (r := [some (.tup ds), some (.int sz), some (.tup (ss.map Stn.d)), some (.tup ls), some (.loc S.length), some (.loc S2.length), none, none, none, none, none, none, none]) (S := S3) (S0 := S3) (src := .lst S2.length) (bs.map fun p => D.ttp [.str p.1, .str p.2]) kf kd
          (by repeat (first | walk_at "ev" | rw [src_l a3])) (turns_lst a3) (fun l i => next_lst (at_old a3)) (fun d hd' => by
            obtain ⟨p, rfl⟩ := kb d hd'
            rfl) (fun d hd' l => by
            obtain ⟨p, rfl⟩ := kb d hd'
            exact ⟨_, rfl, rfl, rfl⟩) (le_line (by rw [List.length_map]; exact lbs))
        rw [this, List.map_map]
        rfl
      obtain ⟨S4, hS4⟩ : ∃ S4, S4 = S3 ++ [.dcT (putsK (bs.map fun p => [Sum.inr p.1, Sum.inr p.2]))] := ⟨_, rfl⟩
      rw [← hS4] at m4
      have n1 : lenD [.loc S3.length] S4 = .ok (.int ((putsK (bs.map fun p => ([Sum.inr p.1, Sum.inr p.2] : List Key))).length : Int)) S4 := by
        rw [hS4]
        exact len_dT _ (at_end _ _)
      have n2 : lenD [.loc S2.length] S4 = .ok (.int (bs.length : Int)) S4 := by
        have := len_l S4 (i := S2.length) (by rw [hS4]; exact at_old a3)
        rw [this, List.length_map]
      have u1 := uniq_len2 bs
      refine gq_new (l := [.lst (ends.map pD), .lst (ds.map fun d => .bl (firstP ss sz ends d)), .lst (bs.map fun p => .ttp [.str p.1, .str p.2]), .dcT (putsK (bs.map fun p => [Sum.inr p.1, Sum.inr p.2]))]) ?_ rfl
      rw [show S ++ [MO.lst (ends.map pD), .lst (ds.map fun d => .bl (firstP ss sz ends d)), .lst (bs.map fun p => .ttp [.str p.1, .str p.2]), .dcT (putsK (bs.map fun p => [Sum.inr p.1, Sum.inr p.2]))] = S4 by rw [hS4, hS3, hS2, hS1, List.append_assoc, List.append_assoc, List.append_assoc]; rfl]
      unfold F_are_firsts
      repeat (first | walk_at "ev" | simp only [m0, h2, m1, m2', m3, m4, n1, n2, u1])
      subst hbs
      simp only [e2, Bool.true_and]
  | _ =>
    simp only [isTup] at h2
    refine gq_new (l := [.lst (ends.map pD)]) ?_ rfl
    rw [← hS1]
    unfold F_are_firsts
    repeat (first | walk_at "ev" | simp only [m0, h2, firstsP])
end Lw
namespace Lw
open PySem PySem.Spec PyProof.Rows L2 Fa
local macro_rules | `(tactic| walk_at "ev") => `(tactic| simp only [bK_ok, bK_err, bK_bad, bnd_ap, ret_ap, fail_ap, mVar_ap, vK_some, mC_ap, m1_ap, m2_ap, k2_ap, mNil_ap, mCons_ap, kCons_ap, kCon_ap, mA_ap, mIf_ap, kIf_t, kIf_f, tOf_ap, isBl_ap, tNt_ap, kNt_ap, tAn_ap, kAn_t, kAn_f, tOr_ap, kOr_t, kOr_f, mNot_ap, kNot_ap, mAnd_ap, kAnd_t, kAnd_f, mOr_ap, kOrV_t, kOrV_f,
  sSeq_ap, sK_nx, sK_rt, sK_bk, sK_ct, sK_ex, sK_bad, oK_ok, oK_err, oK_bad, kNx_ap, kRt_ap, sEx_ap, sRet_ap, sRetN_ap, sNx_ap, sBad_ap, sIf_ap, kIfS_t, kIfS_f, gN_ap, gT_ap, gT_tt, gTc_ap, gT0_ap, sAs_ap, kAs_ap, kAs2_ok, sPar_ap, kPar_ap, gSubD_ap, kSub1_ap, kSub2_ap, kSub3_ap, fK_nx, fK_rt, fK_ex, mLM_ap, mRng1_ap, mRng2_ap, mSrc_ap, src_t, src_r, src_s, src_k,
  mChain_ap, kCh1_ap, kCh2_ap, kCh3_t, kCh3_f, mSl_ap, kSl1_ap, kSl2_ap, mSlT_ap, kTl1_ap, kTl2_ap, mP0_ap, mP_ap, intO_ap, sl_t, dfl_ap, mTM_ap, kTM_k, kTM_t, mMeth_ap, kMe1_ap, kMe2_ap, kMe3_ap, gFld_ap, kF1_ap, gSubA_ap, kSA1_ap, kSA2_ap, sPar3_ap, kPar3_ap, mkD_ap, mkR_ok, dct0D_ap, mDisp_ap, mPairs_nil, mPairs_cons, kPr1_ap, kPr2_ap, kPr3_ap, tuple_t, list_t, mZip_ap, zip_tt,
  wipeE, nc0, nc1, nc2, nc3, nc4, nc5, nc6, nc7, nc8, nc9, nc10, nc11, nc12, nc13, nc14, nc15, Int.reduceEq, Int.reduceLE, Int.reduceLT, Int.reduceSub, Int.reduceAdd,
  fnM_ap, tupD_ap, lstD_ap, le_line, Nat.reduceLeDiff, eq_self,
  add_ii, sub_ii, neg_i, lt_ii, le_ii, gt_ii, ge_ii, isN_n, isN_i, isN_t, isN_s, isN_b, isN_l, abs_i, max_ii, min_ii, int_i, int_b, len_t, len_r, eq_ii, eq_bb, eq_ss,
  List.map_cons, List.map_nil, List.cons_append, List.nil_append, List.append_nil, List.replicate_succ, List.replicate_zero, List.length_cons, List.length_nil, Nat.reduceSub, Nat.reduceAdd, Nat.sub_self, Nat.zero_add,
  List.getElem?_cons_succ, List.getElem?_cons_zero, List.set_cons_succ, List.set_cons_zero, Bool.not_true, Bool.not_false, decide_true, decide_false, if_true, if_false, reduceIte, Bool.false_eq_true])
def stnOf : D → Stn
  | .tup [n, c, i, o, a, b] => ⟨strOf n, itsD c, (itsD i).map strOf, (itsD o).map strOf, (itsD a).map strOf, itsD b⟩
  | _ => ⟨⟨#[]⟩, [], [], [], [], []⟩
def stnsOf (d : D) : List Stn := (itsD d).map stnOf
theorem stnOf_d (s : Stn) : stnOf s.d = s := by
  show Stn.mk s.z s.c ((s.i.map D.str).map strOf) ((s.o.map D.str).map strOf) ((s.a.map D.str).map strOf) s.b = s
  rw [map_strOf, map_strOf, map_strOf]
theorem stnsOf_d (ss : List Stn) : stnsOf (.tup (ss.map Stn.d)) = ss := by
  show (ss.map Stn.d).map stnOf = ss
  rw [List.map_map]
  have : stnOf ∘ Stn.d = id := funext fun s => stnOf_d s
  rw [this, List.map_id]
theorem stations_of {sz : Int} {st : D} (h : stationsP sz st = true) : ∃ ss : List Stn, st = .tup (ss.map Stn.d) ∧ ss ≠ [] ∧ (∀ s ∈ ss, StnOk sz s) ∧ (ss.map Stn.z).Nodup := by
  cases st with
  | tup ds =>
    simp only [stationsP, Bool.and_eq_true, decide_eq_true_eq, Bool.not_eq_true'] at h
    obtain ⟨h1, h2, h3⟩ := h
    obtain ⟨ss, rfl, h4⟩ := stns_of h2
    refine ⟨ss, rfl, fun z => ?_, h4, ?_⟩
    · rw [z] at h1
      cases h1
    · rw [List.map_map] at h3
      exact h3
  | _ => cases h
def modelP : D → Bool
  | .tup [z, st, ln, fi] => numP 2 (some 6) z && (match z with
    | .int n => stationsP n st && (linesP (stnsOf st) ln && firstsP (stnsOf st) n ((itsD ln).map endL) fi)
    | _ => false)
  | _ => false
theorem is_model_q {S : Sto} {v : D} (h : okD S v = true) : gq F_is_model [v] S = .ok (.bl (modelP v)) S := by
  have h2 := isi_tup h
  cases v with
  | tup ds =>
    simp only [isTup] at h2
    obtain ⟨hl, hd⟩ := okD_tup h
    by_cases h4 : ds.length = 4
    · match ds, h4 with
      | [z, st, ln, fi], _ =>
        have x0 : ∀ S, ixD (.tup [z, st, ln, fi]) (.int 0) S = .ok z S := fun S => ix_t S rfl
        have q1 := is_number_i (hd z (by simp)) 2 6
        refine gq_new0 ?_ rfl
        unfold modelP
        cases e1 : numP 2 (some 6) z with
        | false =>
          unfold F_is_model
          repeat (first | walk_at "ev" | simp only [h2, x0, q1, e1, Bool.false_and])
        | true =>
        cases z with
        | int n =>
          have ost := hd st (by simp)
          have q2 := are_stations_q ost n
          cases e2 : stationsP n st with
          | false =>
            unfold F_is_model
            repeat (first | walk_at "ev" | simp only [h2, x0, q1, e1, q2, e2, Bool.true_and, Bool.false_and])
          | true =>
          obtain ⟨ss, rfl, _, hss, _⟩ := stations_of e2
          have oln := hd ln (by simp)
          have q3 := are_lines_q ost oln
          cases e3 : linesP ss ln with
          | false =>
            unfold F_is_model
            repeat (first | walk_at "ev" | simp only [h2, x0, q1, e1, q2, e2, q3, e3, stnsOf_d, Bool.true_and, Bool.false_and])
          | true =>
            cases ln with
            | tup ls =>
              have hls : ls.all (lineP ss) = true := by
                simp only [linesP, Bool.and_eq_true] at e3
                exact e3.1
              have q4 := are_firsts_q (sz := n) ost (fun s hs => ⟨(hss s hs).nm, (hss s hs).il.1⟩) hls (okD_tup oln).1 (hd fi (by simp))
              unfold F_is_model
              repeat (first | walk_at "ev" | simp only [h2, x0, q1, e1, q2, e2, q3, e3, q4, itsD, stnsOf_d, Bool.true_and])
            | _ => cases e3
        | _ => cases e1
    · have e : decide ((ds.length : Int) = 4) = false := by simp only [decide_eq_false_iff_not]; omega
      have : modelP (.tup ds) = false := by
        unfold modelP
        split <;> simp_all
      refine gq_new0 ?_ rfl
      unfold F_is_model
      repeat (first | walk_at "ev" | simp only [h2, e, this])
  | _ =>
    simp only [isTup] at h2
    refine gq_new0 ?_ rfl
    unfold F_is_model
    repeat (first | walk_at "ev" | simp only [h2, modelP])
/-- a model, by parts -/
structure Mdl where
  sz : Int
  ss : List Stn
  ls : List D
  fs : List D
def Mdl.d (m : Mdl) : D := .tup [.int m.sz, .tup (m.ss.map Stn.d), .tup m.ls, .tup m.fs]
structure MdlOk (m : Mdl) : Prop where
  lo : 2 ≤ m.sz
  hi : m.sz ≤ 6
  ne : m.ss ≠ []
  st : ∀ s ∈ m.ss, StnOk m.sz s
  un : (m.ss.map Stn.z).Nodup
  ls : linesP m.ss (.tup m.ls) = true
  fs : firstsP m.ss m.sz (m.ls.map endL) (.tup m.fs) = true
theorem modelP_d (m : Mdl) : modelP m.d = true ↔ MdlOk m := by
  have h1 : numP 2 (some 6) (.int m.sz) = true ↔ 2 ≤ m.sz ∧ m.sz ≤ 6 := by simp [numP]
  have h2 : stationsP m.sz (.tup (m.ss.map Stn.d)) = true ↔ m.ss ≠ [] ∧ (∀ s ∈ m.ss, StnOk m.sz s) ∧ (m.ss.map Stn.z).Nodup := by
    constructor
    · intro h
      obtain ⟨ss, e, r⟩ := stations_of h
      have : m.ss = ss := by
        have := congrArg stnsOf e
        rwa [stnsOf_d, stnsOf_d] at this
      rw [this]
      exact r
    · rintro ⟨a, b, c⟩
      simp only [stationsP, Bool.and_eq_true, decide_eq_true_eq, Bool.not_eq_true']
      refine ⟨?_, ?_, ?_⟩
      · cases e : m.ss with
        | nil => exact absurd e a
        | cons _ _ => rfl
      · rw [List.all_map, List.all_eq_true]
        intro s hs
        exact (stationP_d m.sz s).mpr (b s hs)
      · rw [List.map_map]
        exact c
  show (numP 2 (some 6) (.int m.sz) && (stationsP m.sz (.tup (m.ss.map Stn.d)) && (linesP (stnsOf (.tup (m.ss.map Stn.d))) (.tup m.ls) && firstsP (stnsOf (.tup (m.ss.map Stn.d))) m.sz (m.ls.map endL) (.tup m.fs)))) = true ↔ _
  rw [stnsOf_d, Bool.and_eq_true, Bool.and_eq_true, Bool.and_eq_true, h1, h2]
  constructor
  · rintro ⟨⟨a, b⟩, ⟨c, d, e⟩, f, g⟩
    exact ⟨a, b, c, d, e, f, g⟩
  · rintro ⟨a, b, c, d, e, f, g⟩
    exact ⟨⟨a, b⟩, ⟨c, d, e⟩, f, g⟩
theorem model_of {v : D} (h : modelP v = true) : ∃ m : Mdl, v = m.d ∧ MdlOk m := by
  have h' := h
  unfold modelP at h
  split at h
  · rename_i z st ln fi
    rw [Bool.and_eq_true] at h
    obtain ⟨h1, h2⟩ := h
    split at h2
    · rename_i n
      rw [Bool.and_eq_true, Bool.and_eq_true] at h2
      obtain ⟨h2, h3, h4⟩ := h2
      obtain ⟨ss, rfl, _⟩ := stations_of h2
      cases ln with
      | tup ls =>
        cases fi with
        | tup fs => exact ⟨⟨n, ss, ls, fs⟩, rfl, (modelP_d ⟨n, ss, ls, fs⟩).mp h'⟩
        | _ => cases h4
      | _ => cases h3
    · cases h2
  · cases h
theorem check_model_q {S : Sto} {v : D} (h : okD S v = true) (hm : modelP v = true) : gq F_check_model [v] S = .ok .non S := by
  have q := is_model_q h
  rw [hm] at q
  refine gq_new0 ?_ rfl
  unfold F_check_model
  repeat (first | walk_at "ev" | simp only [q])
theorem checked_station_q {S : Sto} {m : Mdl} {n : D} {s : Stn} (h : okD S m.d = true) (hm : MdlOk m) (hn : okD S n = true) (hs : atN m.ss n = some s) : gq F_checked_station [m.d, n] S = .ok s.d S := by
  have q := check_model_q h ((modelP_d m).mpr hm)
  have o := (okD_tup h).2 (.tup (m.ss.map Stn.d)) (by simp)
  have q2 := station_named_q o hn
  rw [hs] at q2
  have x1 : ∀ S, ixD m.d (.int 1) S = .ok (.tup (m.ss.map Stn.d)) S := fun S => ix_t S rfl
  obtain ⟨z, rfl, hz, hmem⟩ := atN_str hs
  refine gq_new0 ?_ (okD_lt ((okD_tup o).2 _ (List.mem_map_of_mem hmem)))
  unfold F_checked_station
  repeat (first | walk_at "ev" | simp only [q, x1, q2, sD, isN_sd])
end Lw
namespace Lw
open PySem PySem.Spec PyProof.Rows L2 Fa
local macro_rules | `(tactic| walk_at "ev") => `(tactic| simp only [bK_ok, bK_err, bK_bad, bnd_ap, ret_ap, fail_ap, mVar_ap, vK_some, mC_ap, m1_ap, m2_ap, k2_ap, mNil_ap, mCons_ap, kCons_ap, kCon_ap, mA_ap, mIf_ap, kIf_t, kIf_f, tOf_ap, isBl_ap, tNt_ap, kNt_ap, tAn_ap, kAn_t, kAn_f, tOr_ap, kOr_t, kOr_f, mNot_ap, kNot_ap, mAnd_ap, kAnd_t, kAnd_f, mOr_ap, kOrV_t, kOrV_f,
  sSeq_ap, sK_nx, sK_rt, sK_bk, sK_ct, sK_ex, sK_bad, oK_ok, oK_err, oK_bad, kNx_ap, kRt_ap, sEx_ap, sRet_ap, sRetN_ap, sNx_ap, sBad_ap, sIf_ap, kIfS_t, kIfS_f, gN_ap, gT_ap, gT_tt, gTc_ap, gT0_ap, sAs_ap, kAs_ap, kAs2_ok, sPar_ap, kPar_ap, gSubD_ap, kSub1_ap, kSub2_ap, kSub3_ap, fK_nx, fK_rt, fK_ex, mLM_ap, mRng1_ap, mRng2_ap, mSrc_ap, src_t, src_r, src_s, src_k,
  mChain_ap, kCh1_ap, kCh2_ap, kCh3_t, kCh3_f, mSl_ap, kSl1_ap, kSl2_ap, mSlT_ap, kTl1_ap, kTl2_ap, mP0_ap, mP_ap, intO_ap, sl_t, dfl_ap, mTM_ap, kTM_k, kTM_t, mMeth_ap, kMe1_ap, kMe2_ap, kMe3_ap, gFld_ap, kF1_ap, gSubA_ap, kSA1_ap, kSA2_ap, sPar3_ap, kPar3_ap, mkD_ap, mkR_ok, dct0D_ap, mDisp_ap, mPairs_nil, mPairs_cons, kPr1_ap, kPr2_ap, kPr3_ap, tuple_t, list_t, mZip_ap, zip_tt,
  wipeE, nc0, nc1, nc2, nc3, nc4, nc5, nc6, nc7, nc8, nc9, nc10, nc11, nc12, nc13, nc14, nc15, Int.reduceEq, Int.reduceLE, Int.reduceLT, Int.reduceSub, Int.reduceAdd,
  fnM_ap, tupD_ap, lstD_ap, le_line, Nat.reduceLeDiff, eq_self,
  add_ii, sub_ii, neg_i, lt_ii, le_ii, gt_ii, ge_ii, isN_n, isN_i, isN_t, isN_s, isN_b, isN_l, abs_i, max_ii, min_ii, int_i, int_b, len_t, len_r, eq_ii, eq_bb, eq_ss,
  List.map_cons, List.map_nil, List.cons_append, List.nil_append, List.append_nil, List.replicate_succ, List.replicate_zero, List.length_cons, List.length_nil, Nat.reduceSub, Nat.reduceAdd, Nat.sub_self, Nat.zero_add,
  List.getElem?_cons_succ, List.getElem?_cons_zero, List.set_cons_succ, List.set_cons_zero, Bool.not_true, Bool.not_false, decide_true, decide_false, if_true, if_false, reduceIte, Bool.false_eq_true])
/-! ### what a handler does -/
structure Lcs where
  p : Nat
  cb : Nat
  sl : Nat
  ab : Nat
  dl : Nat
abbrev rn : Str := tx "Run"
def runFs (L : Lcs) (sz it : Int) : List (Str × D) := [(tx "run_size", .int sz), (tx "cell_book", .loc L.cb), (tx "letter_worth", .int it), (tx "sent_list", .loc L.sl), (tx "alarm_book", .loc L.ab), (tx "said_list", .loc L.dl)]
theorem lk_ne {a b : Str} {l : List (Str × D)} {v : D} (h : (a == b) = false) : List.lookup a ((b, v) :: l) = List.lookup a l := by
  rw [List.lookup_cons]
  simp only [h]
theorem lk_eq {a : Str} {l : List (Str × D)} {v : D} : List.lookup a ((a, v) :: l) = some v := by
  rw [List.lookup_cons]
  simp
theorem rf_size (L : Lcs) (sz it : Int) : (runFs L sz it).lookup (tx "run_size") = some (.int sz) := lk_eq
theorem rf_cells (L : Lcs) (sz it : Int) : (runFs L sz it).lookup (tx "cell_book") = some (.loc L.cb) := by
  unfold runFs
  rw [lk_ne (by decide +kernel)]
  exact lk_eq
theorem rf_it (L : Lcs) (sz it : Int) : (runFs L sz it).lookup (tx "letter_worth") = some (.int it) := by
  unfold runFs
  rw [lk_ne (by decide +kernel), lk_ne (by decide +kernel)]
  exact lk_eq
theorem rf_sent (L : Lcs) (sz it : Int) : (runFs L sz it).lookup (tx "sent_list") = some (.loc L.sl) := by
  unfold runFs
  rw [lk_ne (by decide +kernel), lk_ne (by decide +kernel), lk_ne (by decide +kernel)]
  exact lk_eq
theorem rf_alarms (L : Lcs) (sz it : Int) : (runFs L sz it).lookup (tx "alarm_book") = some (.loc L.ab) := by
  unfold runFs
  rw [lk_ne (by decide +kernel), lk_ne (by decide +kernel), lk_ne (by decide +kernel), lk_ne (by decide +kernel)]
  exact lk_eq
theorem rf_said (L : Lcs) (sz it : Int) : (runFs L sz it).lookup (tx "said_list") = some (.loc L.dl) := by
  unfold runFs
  rw [lk_ne (by decide +kernel), lk_ne (by decide +kernel), lk_ne (by decide +kernel), lk_ne (by decide +kernel), lk_ne (by decide +kernel)]
  exact lk_eq
theorem rf_none {m : Str} (h : (m == tx "run_size") = false ∧ (m == tx "cell_book") = false ∧ (m == tx "letter_worth") = false ∧ (m == tx "sent_list") = false ∧ (m == tx "alarm_book") = false ∧ (m == tx "said_list") = false) (L : Lcs) (sz it : Int) : (runFs L sz it).lookup m = none := by
  unfold runFs
  rw [lk_ne h.1, lk_ne h.2.1, lk_ne h.2.2.1, lk_ne h.2.2.2.1, lk_ne h.2.2.2.2.1, lk_ne h.2.2.2.2.2]
  rfl
/-- the worths of cells -/
abbrev Bk := List (Str × Int)
def bkD (bk : Bk) : List (Key × D) := bk.map fun p => (Sum.inr p.1, .int p.2)
theorem bkD_val (z : Str) : ∀ bk : Bk, valKD (bkD bk) (Sum.inr z) = (bk.lookup z).map D.int
  | [] => rfl
  | p :: bk => by
    have ih := bkD_val z bk
    unfold valKD bkD at ih ⊢
    rw [List.map_cons, List.find?_cons]
    obtain ⟨k, v⟩ := p
    rw [List.lookup_cons]
    by_cases h : k = z
    · subst h
      simp
    · have h1 : decide ((Sum.inr k : Key) = Sum.inr z) = false := decide_eq_false fun e => h (by injection e)
      have h2 : (z == k) = false := beq_eq_false_iff_ne.mpr fun e => h e.symm
      simp only [h1, h2]
      exact ih
def sgn (g : Str) (x y : Int) : Int := if g = tx "+" then x + y else if g = tx "-" then x - y else x * y
def reck (sz it : Int) (bk : Bk) : D → Int
  | .int n => n
  | .str z => if z = tx "it" then it else (bk.lookup z).getD 0
  | .tup [.str g, a, b] => (sgn g (reck sz it bk a) (reck sz it bk b)).fmod sz
  | _ => 0
structure Wo (sz it : Int) (bk : Bk) : Prop where
  lo : 2 ≤ sz
  hi : sz ≤ 6
  it0 : 0 ≤ it
  it1 : it < sz
  wo : ∀ p ∈ bk, 0 ≤ p.2 ∧ p.2 < sz
theorem lk_mem {z : Str} : ∀ {bk : Bk}, z ∈ bk.map (·.1) → ∃ v, bk.lookup z = some v ∧ (z, v) ∈ bk
  | [], h => nomatch h
  | (k, v) :: bk, h => by
    rw [List.lookup_cons]
    by_cases e : z = k
    · subst e
      exact ⟨v, by simp, by simp⟩
    · have h2 : (z == k) = false := beq_eq_false_iff_ne.mpr e
      simp only [h2]
      rw [List.map_cons] at h
      rcases List.mem_cons.mp h with h | h
      · exact absurd h e
      · obtain ⟨w, e1, e2⟩ := lk_mem h
        exact ⟨w, e1, List.mem_cons_of_mem _ e2⟩
theorem sz_fmod {sz : Int} (h : 2 ≤ sz) (x : Int) : 0 ≤ x.fmod sz ∧ x.fmod sz < sz := by
  rw [Int.fmod_eq_emod_of_nonneg _ (by omega)]
  exact ⟨Int.emod_nonneg _ (by omega), Int.emod_lt_of_pos _ (by omega)⟩
theorem numP_i {lo hi : Int} {v : D} (h : numP lo (some hi) v = true) : ∃ i, v = .int i ∧ lo ≤ i ∧ i ≤ hi := by
  cases v with
  | int i =>
    simp only [numP, Bool.and_eq_true, decide_eq_true_eq] at h
    exact ⟨i, rfl, h.1, h.2⟩
  | _ => cases h
/-- an expression, by its kind -/
theorem exprP_cases {cs : List Str} {sz : Int} {k : Nat} {e : D} (h : exprP cs sz k e = true) :
    (∃ n, e = .int n ∧ 0 ≤ n ∧ n ≤ sz - 1) ∨ (∃ z, e = .str z ∧ (z = tx "it" ∨ z ∈ cs)) ∨ ∃ j g a b, k = j + 1 ∧ e = .tup [.str g, a, b] ∧ g ∈ signs ∧ exprP cs sz j a = true ∧ exprP cs sz j b = true := by
  cases e with
  | str z =>
    refine .inr (.inl ⟨z, rfl, ?_⟩)
    have : (decide (z = tx "it") || decide (z ∈ cs)) = true := by cases k <;> exact h
    simpa using this
  | tup ds =>
    cases k with
    | zero => cases h
    | succ j =>
      by_cases hl : ds.length = 3
      · match ds, hl with
        | [x, a, b], _ =>
          cases x with
          | str g =>
            simp only [exprP, Bool.and_eq_true, decide_eq_true_eq] at h
            exact .inr (.inr ⟨j, g, a, b, rfl, rfl, h.1, h.2.1, h.2.2⟩)
          | _ => exact absurd h (by simp [exprP])
      · have : exprP cs sz (j + 1) (.tup ds) = false := by
          unfold exprP
          split <;> simp_all
        rw [this] at h
        cases h
  | int n =>
    have : numP 0 (some (sz - 1)) (.int n) = true := by cases k <;> exact h
    obtain ⟨i, e, h1, h2⟩ := numP_i this
    cases e
    exact .inl ⟨n, rfl, h1, h2⟩
  | _ => exfalso; cases k <;> cases h
theorem signs_ne {g : Str} (h : g ∈ signs) : g = tx "+" ∨ g = tx "-" ∨ g = tx "*" := by
  simpa [signs] using h
theorem reck_in {sz it : Int} {bk : Bk} (w : Wo sz it bk) : ∀ {k : Nat} {e : D}, exprP (bk.map (·.1)) sz k e = true → 0 ≤ reck sz it bk e ∧ reck sz it bk e < sz := by
  intro k e h
  rcases exprP_cases h with ⟨n, rfl, h1, h2⟩ | ⟨z, rfl, hz⟩ | ⟨j, g, a, b, rfl, rfl, _⟩
  · exact ⟨h1, by show n < sz; omega⟩
  · unfold reck
    by_cases e : z = tx "it"
    · rw [if_pos e]
      exact ⟨w.it0, w.it1⟩
    · rw [if_neg e]
      rcases hz with hz | hz
      · exact absurd hz e
      · obtain ⟨v, e1, e2⟩ := lk_mem hz
        rw [e1]
        exact w.wo _ e2
  · unfold reck
    exact sz_fmod w.lo _
/-- the run stands there -/
structure RunAt (S : Sto) (L : Lcs) (sz it : Int) : Prop where
  p : S[L.p]? = some (.ins rn (runFs L sz it))
theorem reckoned_q {sz it : Int} {bk : Bk} {L : Lcs} (w : Wo sz it bk) : ∀ (k n : Nat) {S : Sto} {e : D}, k < n → okD S e = true → exprP (bk.map (·.1)) sz k e = true → S[L.p]? = some (.ins rn (runFs L sz it)) → S[L.cb]? = some (.dct (bkD bk)) →
    gq (F_Run_reckoned n) [.loc L.p, e] S = .ok (.int (reck sz it bk e)) S := by
  intro k
  induction k with
  | zero =>
    intro n S e hn ho h hp hb
    obtain ⟨n, rfl⟩ : ∃ m, n = m + 1 := ⟨n - 1, by omega⟩
    exact leaf w n ho h hp hb (fun j hj => by omega)
  | succ k ih =>
    intro n S e hn ho h hp hb
    obtain ⟨n, rfl⟩ : ∃ m, n = m + 1 := ⟨n - 1, by omega⟩
    exact leaf w n ho h hp hb (fun j hj {S e} ho' h' hp' hb' => by
      have : k = j := by omega
      rw [this] at ih
      exact ih n (by omega) ho' h' hp' hb')
where
  leaf {sz it : Int} {bk : Bk} {L : Lcs} (w : Wo sz it bk) {k : Nat} (n : Nat) {S : Sto} {e : D} (ho : okD S e = true) (h : exprP (bk.map (·.1)) sz k e = true) (hp : S[L.p]? = some (.ins rn (runFs L sz it))) (hb : S[L.cb]? = some (.dct (bkD bk)))
      (ih : ∀ j, k = j + 1 → ∀ {S : Sto} {e : D}, okD S e = true → exprP (bk.map (·.1)) sz j e = true → S[L.p]? = some (.ins rn (runFs L sz it)) → S[L.cb]? = some (.dct (bkD bk)) → gq (F_Run_reckoned n) [.loc L.p, e] S = .ok (.int (reck sz it bk e)) S) :
      gq (F_Run_reckoned (n + 1)) [.loc L.p, e] S = .ok (.int (reck sz it bk e)) S := by
    have i1 := isi_int ho
    have i2 := isi_str ho
    have f1 : fldD [tx "Run"] (tx "letter_worth") (.loc L.p) S = .ok (.int it) S := fld_l S hp (by simp) (rf_it L sz it)
    have f2 : fldD [tx "Run"] (tx "cell_book") (.loc L.p) S = .ok (.loc L.cb) S := fld_l S hp (by simp) (rf_cells L sz it)
    have f3 : fldD [tx "Run"] (tx "run_size") (.loc L.p) S = .ok (.int sz) S := fld_l S hp (by simp) (rf_size L sz it)
    have m0 : isIns (tx "Run") (tx "reckoned") (.loc L.p) S = .ok () S := isIns_l S hp (rf_none (by decide +kernel) L sz it)
    refine gq_new0 ?_ rfl
    rcases exprP_cases h with ⟨m, rfl, h1, h2⟩ | ⟨z, rfl, hz⟩ | ⟨j, g, a, b, hk, rfl, hg, ha, hb'⟩
    · rw [F_Run_reckoned]
      simp only [isNum] at i1
      repeat (first | walk_at "ev" | simp only [i1, reck])
    · rw [F_Run_reckoned]
      simp only [isNum, isStr] at i1 i2
      by_cases e : z = tx "it"
      · have e' : decide (z = tx "it") = true := decide_eq_true e
        repeat (first | walk_at "ev" | simp only [i1, i2, e', f1, reck, if_pos e])
      · have e' : decide (z = tx "it") = false := decide_eq_false e
        rcases hz with hz | hz
        · exact absurd hz e
        · obtain ⟨v, e1, e2⟩ := lk_mem hz
          have g1 : ixA (.loc L.cb) (.str z) S = .ok (.int v) S := ixA_d S hb rfl (by rw [bkD_val, e1]; rfl)
          repeat (first | walk_at "ev" | simp only [i1, i2, e', f2, g1, reck, if_neg e, e1, Option.getD_some])
    · rw [F_Run_reckoned]
      simp only [isNum, isStr] at i1 i2
      have oa := (okD_tup ho).2 a (by simp)
      have ob := (okD_tup ho).2 b (by simp)
      have q1 := ih j hk oa ha hp hb
      have q2 := ih j hk ob hb' hp hb
      have r1 := reck_in w ha
      have r2 := reck_in w hb'
      have x0 : ∀ S, ixD (.tup [.str g, a, b]) (.int 0) S = .ok (.str g) S := fun S => ix_t S rfl
      have x1 : ∀ S, ixD (.tup [.str g, a, b]) (.int 1) S = .ok a S := fun S => ix_t S rfl
      have x2 : ∀ S, ixD (.tup [.str g, a, b]) (.int 2) S = .ok b S := fun S => ix_t S rfl
      have hs := w.lo
      have hs2 := w.hi
      have md : ∀ x : Int, modD (.int x) (.int sz) S = .ok (.int (x.fmod sz)) S := fun x => mod_ii _ _ _ (decide_eq_true (by omega))
      have hr : reck sz it bk (.tup [.str g, a, b]) = (sgn g (reck sz it bk a) (reck sz it bk b)).fmod sz := by rw [reck]
      rw [hr]
      generalize reck sz it bk a = ra at *
      generalize reck sz it bk b = rb at *
      have ml : mulB (.int ra) (.int rb) S = .ok (.int (ra * rb)) S := mulB_ii _ _ _ (by
        unfold mulC
        rw [decide_eq_true (show -(2 ^ 64) < ra by omega), decide_eq_true (show ra < 2 ^ 64 by omega)]
        rfl)
      rcases signs_ne hg with rfl | rfl | rfl
      · repeat (first | walk_at "ev" | simp only [i1, i2, x0, x1, x2, m0, q1, q2, f3, md, sgn])
      · have e1 : decide (tx "-" = tx "+") = false := by decide +kernel
        have e2 : ¬ tx "-" = tx "+" := by decide +kernel
        repeat (first | walk_at "ev" | simp only [i1, i2, x0, x1, x2, m0, q1, q2, f3, md, sgn, e1, if_neg e2])
      · have e1 : decide (tx "*" = tx "+") = false := by decide +kernel
        have e2 : ¬ tx "*" = tx "+" := by decide +kernel
        have e3 : decide (tx "*" = tx "-") = false := by decide +kernel
        have e4 : ¬ tx "*" = tx "-" := by decide +kernel
        repeat (first | walk_at "ev" | simp only [i1, i2, x0, x1, x2, m0, q1, q2, f3, md, ml, sgn, e1, if_neg e2, e3, if_neg e4])
end Lw
namespace Lw
open PySem PySem.Spec PyProof.Rows L2 Fa
local macro_rules | `(tactic| walk_at "ev") => `(tactic| simp only [bK_ok, bK_err, bK_bad, bnd_ap, ret_ap, fail_ap, mVar_ap, vK_some, mC_ap, m1_ap, m2_ap, k2_ap, mNil_ap, mCons_ap, kCons_ap, kCon_ap, mA_ap, mIf_ap, kIf_t, kIf_f, tOf_ap, isBl_ap, tNt_ap, kNt_ap, tAn_ap, kAn_t, kAn_f, tOr_ap, kOr_t, kOr_f, mNot_ap, kNot_ap, mAnd_ap, kAnd_t, kAnd_f, mOr_ap, kOrV_t, kOrV_f,
  sSeq_ap, sK_nx, sK_rt, sK_bk, sK_ct, sK_ex, sK_bad, oK_ok, oK_err, oK_bad, kNx_ap, kRt_ap, sEx_ap, sRet_ap, sRetN_ap, sNx_ap, sBad_ap, sIf_ap, kIfS_t, kIfS_f, gN_ap, gT_ap, gT_tt, gTc_ap, gT0_ap, sAs_ap, kAs_ap, kAs2_ok, sPar_ap, kPar_ap, gSubD_ap, kSub1_ap, kSub2_ap, kSub3_ap, fK_nx, fK_rt, fK_ex, mLM_ap, mRng1_ap, mRng2_ap, mSrc_ap, src_t, src_r, src_s, src_k,
  mChain_ap, kCh1_ap, kCh2_ap, kCh3_t, kCh3_f, mSl_ap, kSl1_ap, kSl2_ap, mSlT_ap, kTl1_ap, kTl2_ap, mP0_ap, mP_ap, intO_ap, sl_t, dfl_ap, mTM_ap, kTM_k, kTM_t, mMeth_ap, kMe1_ap, kMe2_ap, kMe3_ap, gFld_ap, kF1_ap, gSubA_ap, kSA1_ap, kSA2_ap, sPar3_ap, kPar3_ap, mkD_ap, mkR_ok, dct0D_ap, mDisp_ap, mPairs_nil, mPairs_cons, kPr1_ap, kPr2_ap, kPr3_ap, tuple_t, list_t, mZip_ap, zip_tt,
  wipeE, nc0, nc1, nc2, nc3, nc4, nc5, nc6, nc7, nc8, nc9, nc10, nc11, nc12, nc13, nc14, nc15, Int.reduceEq, Int.reduceLE, Int.reduceLT, Int.reduceSub, Int.reduceAdd,
  fnM_ap, tupD_ap, lstD_ap, le_line, Nat.reduceLeDiff, eq_self,
  add_ii, sub_ii, neg_i, lt_ii, le_ii, gt_ii, ge_ii, isN_n, isN_i, isN_t, isN_s, isN_b, isN_l, abs_i, max_ii, min_ii, int_i, int_b, len_t, len_r, eq_ii, eq_bb, eq_ss,
  List.map_cons, List.map_nil, List.cons_append, List.nil_append, List.append_nil, List.replicate_succ, List.replicate_zero, List.length_cons, List.length_nil, Nat.reduceSub, Nat.reduceAdd, Nat.sub_self, Nat.zero_add,
  List.getElem?_cons_succ, List.getElem?_cons_zero, List.set_cons_succ, List.set_cons_zero, Bool.not_true, Bool.not_false, decide_true, decide_false, if_true, if_false, reduceIte, Bool.false_eq_true])
/-! ### statements -/
structure RS where
  bk : Bk
  sent : List (Str × Int)
  al : List (Str × Option Int)
  said : List Int
def oD : Option Int → D
  | some v => .int v
  | none => .non
def sentD (l : List (Str × Int)) : List D := l.map fun p => .tup [.str p.1, .int p.2]
def alD (l : List (Str × Option Int)) : List (Key × D) := l.map fun p => (Sum.inr p.1, oD p.2)
def saidD (l : List Int) : List D := l.map D.int
def putS {α : Type} (l : List (Str × α)) (k : Str) (v : α) : List (Str × α) := if (l.any fun p => decide (p.1 = k)) = true then l.map (fun p => if p.1 = k then (p.1, v) else p) else l ++ [(k, v)]
theorem putS_D {α : Type} (g : α → D) (l : List (Str × α)) (k : Str) (v : α) : putKD (l.map fun p => ((Sum.inr p.1 : Key), g p.2)) (Sum.inr k) (g v) = (putS l k v).map fun p => ((Sum.inr p.1 : Key), g p.2) := by
  have hi : ∀ a : Str, decide ((Sum.inr a : Key) = Sum.inr k) = decide (a = k) := fun a => by
    by_cases h : a = k
    · rw [decide_eq_true h, decide_eq_true (by rw [h])]
    · rw [decide_eq_false h, decide_eq_false fun e => h (by injection e)]
  unfold putKD putS
  rw [List.any_map]
  have : ((fun kv : Key × D => decide (kv.1 = Sum.inr k)) ∘ fun p : Str × α => ((Sum.inr p.1 : Key), g p.2)) = fun p => decide (p.1 = k) := funext fun p => hi p.1
  rw [this]
  by_cases h : (l.any fun p => decide (p.1 = k)) = true
  · rw [if_pos h, if_pos h, List.map_map, List.map_map]
    apply List.map_congr_left
    intro p _
    show (if (Sum.inr p.1 : Key) = Sum.inr k then (Sum.inr p.1, g v) else (Sum.inr p.1, g p.2)) = _
    show _ = ((Sum.inr (if p.1 = k then (p.1, v) else p).1 : Key), g (if p.1 = k then (p.1, v) else p).2)
    by_cases e : p.1 = k
    · rw [if_pos (by rw [e]), if_pos e]
    · rw [if_neg (fun z => e (by injection z)), if_neg e]
  · rw [if_neg h, if_neg h, List.map_append]
    rfl
theorem putS_keys {α : Type} {l : List (Str × α)} {k : Str} {v : α} (h : k ∈ l.map (·.1)) : (putS l k v).map (·.1) = l.map (·.1) := by
  unfold putS
  rw [if_pos (by
    obtain ⟨p, hp, e⟩ := List.mem_map.mp h
    exact List.any_eq_true.mpr ⟨p, hp, decide_eq_true e⟩), List.map_map]
  apply List.map_congr_left
  intro p _
  show (if p.1 = k then (p.1, v) else p).1 = p.1
  split <;> rfl
theorem putS_mem {α : Type} {l : List (Str × α)} {k : Str} {v : α} {p : Str × α} (h : p ∈ putS l k v) : p.2 = v ∨ p ∈ l := by
  unfold putS at h
  split at h
  · obtain ⟨q, hq, e⟩ := List.mem_map.mp h
    split at e
    · subst e; exact .inl rfl
    · subst e; exact .inr hq
  · rcases List.mem_append.mp h with h | h
    · exact .inr h
    · simp at h
      subst h
      exact .inl rfl
theorem putS_len {α : Type} (l : List (Str × α)) (k : Str) (v : α) : (putS l k v).length ≤ l.length + 1 := by
  unfold putS
  split <;> simp
def condB (sz it : Int) (bk : Bk) : D → Bool
  | .tup [.str g, a, b] => if g = tx "=" then decide (reck sz it bk a = reck sz it bk b) else decide (reck sz it bk a < reck sz it bk b)
  | _ => false
def iter (f : RS → RS) : Nat → RS → RS
  | 0, s => s
  | n + 1, s => iter f n (f s)
theorem iter_snoc (f : RS → RS) : ∀ (n : Nat) (s : RS), iter f (n + 1) s = f (iter f n s)
  | 0, _ => rfl
  | n + 1, s => by
    show iter f (n + 1) (f s) = _
    rw [iter_snoc f n (f s)]
    rfl
def doS (sz it : Int) (run : D → RS → RS) (st : D) (s : RS) : RS := match st with
  | .tup [.str w, a] => if w = tx "drop" then { s with al := putS s.al (strOf a) none } else { s with said := s.said ++ [reck sz it s.bk a] }
  | .tup [.str w, a, e] => if w = tx "set" then { s with bk := putS s.bk (strOf a) (reck sz it s.bk e) } else if w = tx "send" then { s with sent := s.sent ++ [(strOf a, reck sz it s.bk e)] }
      else if w = tx "wait" then { s with al := putS s.al (strOf a) (some (reck sz it s.bk e)) } else iter (run e) (reck sz it s.bk a).toNat s
  | .tup [.str _, c, x, y] => if condB sz it s.bk c = true then run x s else run y s
  | _ => s
def doB (sz it : Int) : Nat → D → RS → RS
  | 0, b, s => (itsD b).foldl (fun s d => doS sz it (fun _ s => s) d s) s
  | k + 1, b, s => (itsD b).foldl (fun s d => doS sz it (doB sz it k) d s) s
def runB (sz it : Int) : Nat → D → RS → RS
  | 0 => fun _ s => s
  | k + 1 => doB sz it k
theorem doB_eq (sz it : Int) (k : Nat) (b : D) (s : RS) : doB sz it k b s = (itsD b).foldl (fun s d => doS sz it (runB sz it k) d s) s := by
  cases k <;> rfl
structure Lcs.Ok (L : Lcs) : Prop where
  a : L.p ≠ L.cb ∧ L.p ≠ L.sl ∧ L.p ≠ L.ab ∧ L.p ≠ L.dl
  b : L.cb ≠ L.sl ∧ L.cb ≠ L.ab ∧ L.cb ≠ L.dl
  c : L.sl ≠ L.ab ∧ L.sl ≠ L.dl
  d : L.ab ≠ L.dl
/-- the run in the store -/
structure Stt (S : Sto) (L : Lcs) (sz it : Int) (s : RS) : Prop where
  p : S[L.p]? = some (.ins rn (runFs L sz it))
  cb : S[L.cb]? = some (.dct (bkD s.bk))
  sl : S[L.sl]? = some (.lst (sentD s.sent))
  ab : S[L.ab]? = some (.dct (alD s.al))
  dl : S[L.dl]? = some (.lst (saidD s.said))
structure Chg (L : Lcs) (S S' : Sto) : Prop where
  len : S'.length = S.length
  at_ : ∀ i, i ≠ L.cb → i ≠ L.sl → i ≠ L.ab → i ≠ L.dl → S'[i]? = S[i]?
theorem Chg.refl (L : Lcs) (S : Sto) : Chg L S S := ⟨rfl, fun _ _ _ _ _ => rfl⟩
theorem Chg.trans {L : Lcs} {S S1 S2 : Sto} (a : Chg L S S1) (b : Chg L S1 S2) : Chg L S S2 := ⟨b.len.trans a.len, fun i h1 h2 h3 h4 => (b.at_ i h1 h2 h3 h4).trans (a.at_ i h1 h2 h3 h4)⟩
theorem ltK_bk (n : Nat) : ∀ bk : Bk, ltK n (bkD bk) = true
  | [] => rfl
  | _ :: bk => ltK_bk n bk
theorem ltK_al (n : Nat) : ∀ al : List (Str × Option Int), ltK n (alD al) = true
  | [] => rfl
  | (_, some _) :: al => ltK_al n al
  | (_, none) :: al => ltK_al n al
theorem ltDs_sent (n : Nat) : ∀ l : List (Str × Int), ltDs n (sentD l) = true
  | [] => rfl
  | _ :: l => ltDs_sent n l
theorem ltDs_said (n : Nat) : ∀ l : List Int, ltDs n (saidD l) = true
  | [] => rfl
  | _ :: l => ltDs_said n l
theorem trim_of {S S' : Sto} {L : Lcs} {sz it : Int} {s : RS} (h : Stt S' L sz it s) (c : Chg L S S') : Trim S.length S S' := fun i _ => by
  by_cases h1 : i = L.cb
  · subst h1; exact .inr ⟨_, h.cb, ltK_bk _ _⟩
  by_cases h2 : i = L.sl
  · subst h2; exact .inr ⟨_, h.sl, ltDs_sent _ _⟩
  by_cases h3 : i = L.ab
  · subst h3; exact .inr ⟨_, h.ab, ltK_al _ _⟩
  by_cases h4 : i = L.dl
  · subst h4; exact .inr ⟨_, h.dl, ltDs_said _ _⟩
  exact .inl (c.at_ i h1 h2 h3 h4)
section
variable {S : Sto} {L : Lcs} {sz it : Int} {s : RS}
theorem at_lt {i : Nat} {o : MO} (h : S[i]? = some o) : i < S.length := (List.getElem?_eq_some_iff.mp h).1
theorem Stt.setCb (h : Stt S L sz it s) (o : L.Ok) (bk : Bk) : Stt (S.set L.cb (.dct (bkD bk))) L sz it { s with bk := bk } ∧ Chg L S (S.set L.cb (.dct (bkD bk))) := by
  refine ⟨⟨?_, ?_, ?_, ?_, ?_⟩, by simp, fun i h1 _ _ _ => List.getElem?_set_ne (Ne.symm h1)⟩
  · rw [List.getElem?_set_ne (Ne.symm o.a.1)]; exact h.p
  · exact List.getElem?_set_self (at_lt h.cb)
  · rw [List.getElem?_set_ne o.b.1]; exact h.sl
  · rw [List.getElem?_set_ne o.b.2.1]; exact h.ab
  · rw [List.getElem?_set_ne o.b.2.2]; exact h.dl
theorem Stt.setSl (h : Stt S L sz it s) (o : L.Ok) (x : List (Str × Int)) : Stt (S.set L.sl (.lst (sentD x))) L sz it { s with sent := x } ∧ Chg L S (S.set L.sl (.lst (sentD x))) := by
  refine ⟨⟨?_, ?_, ?_, ?_, ?_⟩, by simp, fun i _ h1 _ _ => List.getElem?_set_ne (Ne.symm h1)⟩
  · rw [List.getElem?_set_ne (Ne.symm o.a.2.1)]; exact h.p
  · rw [List.getElem?_set_ne (Ne.symm o.b.1)]; exact h.cb
  · exact List.getElem?_set_self (at_lt h.sl)
  · rw [List.getElem?_set_ne o.c.1]; exact h.ab
  · rw [List.getElem?_set_ne o.c.2]; exact h.dl
theorem Stt.setAb (h : Stt S L sz it s) (o : L.Ok) (x : List (Str × Option Int)) : Stt (S.set L.ab (.dct (alD x))) L sz it { s with al := x } ∧ Chg L S (S.set L.ab (.dct (alD x))) := by
  refine ⟨⟨?_, ?_, ?_, ?_, ?_⟩, by simp, fun i _ _ h1 _ => List.getElem?_set_ne (Ne.symm h1)⟩
  · rw [List.getElem?_set_ne (Ne.symm o.a.2.2.1)]; exact h.p
  · rw [List.getElem?_set_ne (Ne.symm o.b.2.1)]; exact h.cb
  · rw [List.getElem?_set_ne (Ne.symm o.c.1)]; exact h.sl
  · exact List.getElem?_set_self (at_lt h.ab)
  · rw [List.getElem?_set_ne o.d]; exact h.dl
theorem Stt.setDl (h : Stt S L sz it s) (o : L.Ok) (x : List Int) : Stt (S.set L.dl (.lst (saidD x))) L sz it { s with said := x } ∧ Chg L S (S.set L.dl (.lst (saidD x))) := by
  refine ⟨⟨?_, ?_, ?_, ?_, ?_⟩, by simp, fun i _ _ _ h1 => List.getElem?_set_ne (Ne.symm h1)⟩
  · rw [List.getElem?_set_ne (Ne.symm o.a.2.2.2)]; exact h.p
  · rw [List.getElem?_set_ne (Ne.symm o.b.2.2)]; exact h.cb
  · rw [List.getElem?_set_ne (Ne.symm o.c.2)]; exact h.sl
  · rw [List.getElem?_set_ne (Ne.symm o.d)]; exact h.ab
  · exact List.getElem?_set_self (at_lt h.dl)
end
def sizeS (s : RS) : Nat := s.sent.length + s.said.length + s.al.length
/-- what stays while a program runs -/
structure Good (cs : List Str) (sz it : Int) (s : RS) : Prop where
  ks : s.bk.map (·.1) = cs
  wo : Wo sz it s.bk
  cl : cs.length ≤ 1000
def cost : Nat → Nat
  | 0 => 6
  | k + 1 => 30 * cost k
theorem is_so_q {S : Sto} {L : Lcs} {sz it : Int} {bk : Bk} {c : D} (w : Wo sz it bk) (ho : okD S c = true) (h : condP (bk.map (·.1)) sz c = true) (hp : S[L.p]? = some (.ins rn (runFs L sz it))) (hb : S[L.cb]? = some (.dct (bkD bk))) :
    gq F_Run_is_so [.loc L.p, c] S = .ok (.bl (condB sz it bk c)) S := by
  have hc : ∃ g a b, c = .tup [.str g, a, b] ∧ g ∈ tests ∧ exprP (bk.map (·.1)) sz 3 a = true ∧ exprP (bk.map (·.1)) sz 3 b = true := by
    unfold condP at h
    split at h
    · rename_i g a b
      simp only [Bool.and_eq_true, decide_eq_true_eq] at h
      exact ⟨g, a, b, rfl, h.1, h.2.1, h.2.2⟩
    · cases h
  obtain ⟨g, a, b, rfl, hg, ha, hb'⟩ := hc
  have oa := (okD_tup ho).2 a (by simp)
  have ob := (okD_tup ho).2 b (by simp)
  have q1 := reckoned_q (n := 12) w 3 (by decide) oa ha hp hb
  have q2 := reckoned_q (n := 12) w 3 (by decide) ob hb' hp hb
  have m0 : isIns (tx "Run") (tx "reckoned") (.loc L.p) S = .ok () S := isIns_l S hp (rf_none (by decide +kernel) L sz it)
  refine gq_new0 ?_ rfl
  unfold F_Run_is_so
  simp only [condB]
  by_cases e : g = tx "="
  · have e' : decide (g = tx "=") = true := decide_eq_true e
    repeat (first | walk_at "ev" | simp only [m0, q1, q2, e', if_pos e])
  · have e' : decide (g = tx "=") = false := decide_eq_false e
    repeat (first | walk_at "ev" | simp only [m0, q1, q2, e', if_neg e])
end Lw
namespace Lw
open PySem PySem.Spec PyProof.Rows L2 Fa
local macro_rules | `(tactic| walk_at "ev") => `(tactic| simp only [bK_ok, bK_err, bK_bad, bnd_ap, ret_ap, fail_ap, mVar_ap, vK_some, mC_ap, m1_ap, m2_ap, k2_ap, mNil_ap, mCons_ap, kCons_ap, kCon_ap, mA_ap, mIf_ap, kIf_t, kIf_f, tOf_ap, isBl_ap, tNt_ap, kNt_ap, tAn_ap, kAn_t, kAn_f, tOr_ap, kOr_t, kOr_f, mNot_ap, kNot_ap, mAnd_ap, kAnd_t, kAnd_f, mOr_ap, kOrV_t, kOrV_f,
  sSeq_ap, sK_nx, sK_rt, sK_bk, sK_ct, sK_ex, sK_bad, oK_ok, oK_err, oK_bad, kNx_ap, kRt_ap, sEx_ap, sRet_ap, sRetN_ap, sNx_ap, sBad_ap, sIf_ap, kIfS_t, kIfS_f, gN_ap, gT_ap, gT_tt, gTc_ap, gT0_ap, sAs_ap, kAs_ap, kAs2_ok, sPar_ap, kPar_ap, gSubD_ap, kSub1_ap, kSub2_ap, kSub3_ap, fK_nx, fK_rt, fK_ex, mLM_ap, mRng1_ap, mRng2_ap, mSrc_ap, src_t, src_r, src_s, src_k,
  mChain_ap, kCh1_ap, kCh2_ap, kCh3_t, kCh3_f, mSl_ap, kSl1_ap, kSl2_ap, mSlT_ap, kTl1_ap, kTl2_ap, mP0_ap, mP_ap, intO_ap, sl_t, dfl_ap, mTM_ap, kTM_k, kTM_t, mMeth_ap, kMe1_ap, kMe2_ap, kMe3_ap, gFld_ap, kF1_ap, gSubA_ap, kSA1_ap, kSA2_ap, sPar3_ap, kPar3_ap, mkD_ap, mkR_ok, dct0D_ap, mDisp_ap, mPairs_nil, mPairs_cons, kPr1_ap, kPr2_ap, kPr3_ap, tuple_t, list_t, mZip_ap, zip_tt,
  wipeE, nc0, nc1, nc2, nc3, nc4, nc5, nc6, nc7, nc8, nc9, nc10, nc11, nc12, nc13, nc14, nc15, Int.reduceEq, Int.reduceLE, Int.reduceLT, Int.reduceSub, Int.reduceAdd,
  fnM_ap, tupD_ap, lstD_ap, le_line, Nat.reduceLeDiff, eq_self,
  add_ii, sub_ii, neg_i, lt_ii, le_ii, gt_ii, ge_ii, isN_n, isN_i, isN_t, isN_s, isN_b, isN_l, abs_i, max_ii, min_ii, int_i, int_b, len_t, len_r, eq_ii, eq_bb, eq_ss,
  List.map_cons, List.map_nil, List.cons_append, List.nil_append, List.append_nil, List.replicate_succ, List.replicate_zero, List.length_cons, List.length_nil, Nat.reduceSub, Nat.reduceAdd, Nat.sub_self, Nat.zero_add,
  List.getElem?_cons_succ, List.getElem?_cons_zero, List.set_cons_succ, List.set_cons_zero, Bool.not_true, Bool.not_false, decide_true, decide_false, if_true, if_false, reduceIte, Bool.false_eq_true])
inductive StK (P : Ports) (sz : Int) (pr : Option (D → Bool)) : D → Prop
  | drop {z : Str} : z ∈ P.als → StK P sz pr (.tup [.str (tx "drop"), .str z])
  | say {e : D} : exprP P.cs sz 3 e = true → StK P sz pr (.tup [.str (tx "say"), e])
  | set {z : Str} {e : D} : z ∈ P.cs → exprP P.cs sz 3 e = true → StK P sz pr (.tup [.str (tx "set"), .str z, e])
  | send {z : Str} {e : D} : z ∈ P.outs → exprP P.cs sz 3 e = true → StK P sz pr (.tup [.str (tx "send"), .str z, e])
  | wait {z : Str} {e : D} : z ∈ P.als → exprP P.cs sz 3 e = true → StK P sz pr (.tup [.str (tx "wait"), .str z, e])
  | rep {e b : D} {p : D → Bool} : pr = some p → exprP P.cs sz 3 e = true → p b = true → StK P sz pr (.tup [.str (tx "repeat"), e, b])
  | cnd {c x y : D} {p : D → Bool} : pr = some p → condP P.cs sz c = true → p x = true → p y = true → StK P sz pr (.tup [.str (tx "if"), c, x, y])
theorem namedP_s {ns : List Str} {v : D} (h : namedP ns v = true) : ∃ z, v = .str z ∧ z ∈ ns := by
  cases v with
  | str z => exact ⟨z, rfl, of_decide_eq_true h⟩
  | _ => cases h
theorem stK {P : Ports} {sz : Int} {pr : Option (D → Bool)} {st : D} (h : stmtP P sz pr st = true) : StK P sz pr st := by
  unfold stmtP at h
  split at h
  · rename_i w a
    split at h
    · rename_i e; subst e
      obtain ⟨z, rfl, hz⟩ := namedP_s h
      exact .drop hz
    · split at h
      · rename_i e; subst e; exact .say h
      · cases h
  · rename_i w a e
    split at h
    · rename_i e'; subst e'
      rw [Bool.and_eq_true] at h
      obtain ⟨z, rfl, hz⟩ := namedP_s h.1
      exact .set hz h.2
    · split at h
      · rename_i e'; subst e'
        rw [Bool.and_eq_true] at h
        obtain ⟨z, rfl, hz⟩ := namedP_s h.1
        exact .send hz h.2
      · split at h
        · rename_i e'; subst e'
          rw [Bool.and_eq_true] at h
          obtain ⟨z, rfl, hz⟩ := namedP_s h.1
          exact .wait hz h.2
        · split at h
          · rename_i e'; subst e'
            cases pr with
            | none => cases h
            | some p =>
              rw [Bool.and_eq_true] at h
              exact .rep rfl h.1 h.2
          · cases h
  · rename_i w c x y
    split at h
    · rename_i e'; subst e'
      cases pr with
      | none => cases h
      | some p =>
        rw [Bool.and_eq_true, Bool.and_eq_true] at h
        exact .cnd rfl h.1 h.2.1 h.2.2
    · cases h
  · cases h
def oneCost : Nat → Nat
  | 0 => 1
  | k + 1 => 5 * cost k
theorem cost_one (k : Nat) : cost k = 6 * oneCost k := by
  cases k with
  | zero => rfl
  | succ k =>
    show 30 * cost k = 6 * (5 * cost k)
    omega
theorem oneCost_pos (k : Nat) : 1 ≤ oneCost k := by
  have : ∀ k, 1 ≤ cost k := fun k => by
    induction k with
    | zero => decide
    | succ k ih => show 1 ≤ 30 * cost k; omega
  cases k with
  | zero => decide
  | succ k => have := this k; show 1 ≤ 5 * cost k; omega
theorem okD_nil {d : D} (h : okD [] d = true) (S : Sto) : okD S d = true := by
  have := okD_app (l := S) h
  rwa [List.nil_append] at this
theorem doS_drop (sz it : Int) (run : D → RS → RS) (a : D) (s : RS) : doS sz it run (.tup [.str (tx "drop"), a]) s = { s with al := putS s.al (strOf a) none } := by
  simp only [doS, if_pos]
theorem doS_say (sz it : Int) (run : D → RS → RS) (a : D) (s : RS) : doS sz it run (.tup [.str (tx "say"), a]) s = { s with said := s.said ++ [reck sz it s.bk a] } := by
  simp only [doS, if_neg (show ¬ tx "say" = tx "drop" by decide +kernel)]
theorem doS_set (sz it : Int) (run : D → RS → RS) (a e : D) (s : RS) : doS sz it run (.tup [.str (tx "set"), a, e]) s = { s with bk := putS s.bk (strOf a) (reck sz it s.bk e) } := by
  simp only [doS, if_pos]
theorem doS_send (sz it : Int) (run : D → RS → RS) (a e : D) (s : RS) : doS sz it run (.tup [.str (tx "send"), a, e]) s = { s with sent := s.sent ++ [(strOf a, reck sz it s.bk e)] } := by
  simp only [doS, if_neg (show ¬ tx "send" = tx "set" by decide +kernel), if_pos]
theorem doS_wait (sz it : Int) (run : D → RS → RS) (a e : D) (s : RS) : doS sz it run (.tup [.str (tx "wait"), a, e]) s = { s with al := putS s.al (strOf a) (some (reck sz it s.bk e)) } := by
  simp only [doS, if_neg (show ¬ tx "wait" = tx "set" by decide +kernel), if_neg (show ¬ tx "wait" = tx "send" by decide +kernel), if_pos]
theorem doS_rep (sz it : Int) (run : D → RS → RS) (a e : D) (s : RS) : doS sz it run (.tup [.str (tx "repeat"), a, e]) s = iter (run e) (reck sz it s.bk a).toNat s := by
  simp only [doS, if_neg (show ¬ tx "repeat" = tx "set" by decide +kernel), if_neg (show ¬ tx "repeat" = tx "send" by decide +kernel), if_neg (show ¬ tx "repeat" = tx "wait" by decide +kernel)]
theorem doS_if (sz it : Int) (run : D → RS → RS) (c x y : D) (s : RS) : doS sz it run (.tup [.str (tx "if"), c, x, y]) s = if condB sz it s.bk c = true then run x s else run y s := by
  simp only [doS]
def AllOk (P : Ports) (sz it : Int) (k n : Nat) : Prop := ∀ {S : Sto} {L : Lcs} {s : RS} {b : D}, L.Ok → Stt S L sz it s → Good P.cs sz it s → okD [] b = true → progP P sz k b = true → sizeS s + cost k ≤ 1000000 →
  ∃ S', gq (F_Run_do_all n) [.loc L.p, b] S = .ok .non S' ∧ Stt S' L sz it (doB sz it k b s) ∧ Chg L S S' ∧ Good P.cs sz it (doB sz it k b s) ∧ sizeS (doB sz it k b s) ≤ sizeS s + cost k
def OneOk (P : Ports) (sz it : Int) (k n : Nat) : Prop := ∀ {S : Sto} {L : Lcs} {s : RS} {st : D}, L.Ok → Stt S L sz it s → Good P.cs sz it s → okD [] st = true → stmtP P sz (below P sz k) st = true → sizeS s + oneCost k ≤ 1000000 →
  ∃ S', gq (F_Run_do_one n) [.loc L.p, st] S = .ok .non S' ∧ Stt S' L sz it (doS sz it (runB sz it k) st s) ∧ Chg L S S' ∧ Good P.cs sz it (doS sz it (runB sz it k) st s) ∧ sizeS (doS sz it (runB sz it k) st s) ≤ sizeS s + oneCost k
theorem all_of_one {P : Ports} {sz it : Int} {k n : Nat} (h1 : OneOk P sz it k n) : AllOk P sz it k (n + 1) := by
  intro S L s b o hS hG hb hp hz
  cases b with
  | tup ds =>
    rw [progP_tup, Bool.and_eq_true, decide_eq_true_eq] at hp
    obtain ⟨hl, hst⟩ := hp
    rw [doB_eq]
    have hc := cost_one k
    have hm : mSrc (mVar 1) [some (.loc L.p), some (.tup ds), none] S = .ok (.items ds) S := by walk_at "ev"
    obtain ⟨r', S', hf, ⟨x, rfl⟩, hS', hC', hG', hz'⟩ := sFor_inv ds.length (fun i => ds.getD i .non) (g := gN 2) (b := sEx (mMeth "Run" "do_one" (gq (F_Run_do_one n)) (mVar 0) (mCons (mVar 2) mNil)))
      (fun i r S1 => (∃ x, r = [some (.loc L.p), some (.tup ds), x]) ∧ Stt S1 L sz it ((ds.take i).foldl (fun s d => doS sz it (runB sz it k) d s) s) ∧ Chg L S S1 ∧ Good P.cs sz it ((ds.take i).foldl (fun s d => doS sz it (runB sz it k) d s) s) ∧ sizeS ((ds.take i).foldl (fun s d => doS sz it (runB sz it k) d s) s) ≤ sizeS s + i * oneCost k)
      hm rfl (fun i r S1 _ => by
        show some ds[i]? = _
        by_cases hi : i < ds.length
        · rw [if_pos hi, List.getElem?_eq_getElem hi, List.getD_eq_getElem?_getD, List.getElem?_eq_getElem hi]
          rfl
        · rw [if_neg hi, List.getElem?_eq_none_iff.mpr (by omega)])
      (fun i r S1 hi hI => by
        obtain ⟨⟨x, rfl⟩, hS1, hC1, hG1, hz1⟩ := hI
        have hd : ds.getD i .non = ds[i] := by rw [List.getD_eq_getElem?_getD, List.getElem?_eq_getElem hi]; rfl
        have hmem : ds[i] ∈ ds := List.getElem_mem hi
        have hle : i * oneCost k + oneCost k ≤ 6 * oneCost k := by
          have : (i + 1) * oneCost k ≤ 6 * oneCost k := Nat.mul_le_mul_right _ (by omega)
          rw [Nat.add_mul, Nat.one_mul] at this
          exact this
        obtain ⟨S2, e2, hS2, hC2, hG2, hz2⟩ := h1 o hS1 hG1 ((okD_tup hb).2 _ hmem) (List.all_eq_true.mp hst _ hmem) (by omega)
        have m0 : isIns (tx "Run") (tx "do_one") (.loc L.p) S1 = .ok () S1 := isIns_l S1 hS1.p (rf_none (by decide +kernel) L sz it)
        have et : (ds.take (i + 1)).foldl (fun s d => doS sz it (runB sz it k) d s) s = doS sz it (runB sz it k) ds[i] ((ds.take i).foldl (fun s d => doS sz it (runB sz it k) d s) s) := by
          rw [List.take_add_one, List.getElem?_eq_getElem hi, List.foldl_append]
          rfl
        refine ⟨[some (.loc L.p), some (.tup ds), some ds[i]], S1, [some (.loc L.p), some (.tup ds), some ds[i]], S2, ?_, .inl ?_, ⟨_, rfl⟩, ?_, hC1.trans hC2, ?_, ?_⟩
        · rw [hd]
          rfl
        · repeat (first | walk_at "ev" | simp only [m0, e2])
        · rw [et]; exact hS2
        · rw [et]; exact hG2
        · rw [et, Nat.add_mul, Nat.one_mul]; omega) ⟨⟨_, rfl⟩, hS, Chg.refl L S, hG, by simp⟩
    rw [List.take_of_length_le (Nat.le_refl _)] at hS' hG' hz'
    have hle : ds.length * oneCost k ≤ 6 * oneCost k := Nat.mul_le_mul_right _ hl
    refine ⟨S', gq_same ?_ hC'.len rfl (trim_of hS' hC'), hS', hC', hG', by show sizeS _ ≤ _; simp only [itsD]; omega⟩
    rw [F_Run_do_all, fnM_ap _ _ _ _ _ (by rfl)]
    rw [show ([D.loc L.p, D.tup ds].map some ++ List.replicate (3 - 2) none) = [some (.loc L.p), some (.tup ds), none] from rfl, hf]
    rfl
  | _ => exfalso; cases k <;> cases hp
theorem Wo.put {sz it : Int} {bk : Bk} (w : Wo sz it bk) {z : Str} {v : Int} (h0 : 0 ≤ v) (h1 : v < sz) : Wo sz it (putS bk z v) := ⟨w.lo, w.hi, w.it0, w.it1, fun p hp => by
  rcases putS_mem hp with e | e
  · rw [e]; exact ⟨h0, h1⟩
  · exact w.wo p e⟩
theorem one_of_all {P : Ports} {sz it : Int} {k n : Nat} (hA : ∀ j, k = j + 1 → AllOk P sz it j n) : OneOk P sz it k (n + 1) := by
  intro S L s st o hS hG hb hp hz
  have w := hG.wo
  have hc1 := oneCost_pos k
  have mR : isIns (tx "Run") (tx "reckoned") (.loc L.p) S = .ok () S := isIns_l S hS.p (rf_none (by decide +kernel) L sz it)
  have mD : ∀ S1, S1[L.p]? = some (.ins rn (runFs L sz it)) → isIns (tx "Run") (tx "do_all") (.loc L.p) S1 = .ok () S1 := fun S1 h => isIns_l S1 h (rf_none (by decide +kernel) L sz it)
  have mS : isIns (tx "Run") (tx "is_so") (.loc L.p) S = .ok () S := isIns_l S hS.p (rf_none (by decide +kernel) L sz it)
  have fC : fldD [tx "Run"] (tx "cell_book") (.loc L.p) S = .ok (.loc L.cb) S := fld_l S hS.p (by simp) (rf_cells L sz it)
  have fS : fldD [tx "Run"] (tx "sent_list") (.loc L.p) S = .ok (.loc L.sl) S := fld_l S hS.p (by simp) (rf_sent L sz it)
  have fA : fldD [tx "Run"] (tx "alarm_book") (.loc L.p) S = .ok (.loc L.ab) S := fld_l S hS.p (by simp) (rf_alarms L sz it)
  have fD : fldD [tx "Run"] (tx "said_list") (.loc L.p) S = .ok (.loc L.dl) S := fld_l S hS.p (by simp) (rf_said L sz it)
  have rk : ∀ {e : D}, okD [] e = true → exprP P.cs sz 3 e = true → gq (F_Run_reckoned 12) [.loc L.p, e] S = .ok (.int (reck sz it s.bk e)) S ∧ 0 ≤ reck sz it s.bk e ∧ reck sz it s.bk e < sz := fun ho he => by
    rw [← hG.ks] at he
    exact ⟨reckoned_q w 3 12 (by decide) (okD_nil ho S) he hS.p hS.cb, reck_in w he⟩
  have hso : sizeS s = s.sent.length + s.said.length + s.al.length := rfl
  have inW : ∀ x : Str, inD false (.str x) (.tup [.str (tx "wait"), .str (tx "drop")]) S = .ok (.bl (decide (x ∈ [tx "wait", tx "drop"]))) S := fun x => in_strs false x [tx "wait", tx "drop"] S
  cases stK hp with
  | drop hz' =>
    rename_i z
    have x0 : ∀ S, ixD (.tup [.str (tx "drop"), .str z]) (.int 0) S = .ok (.str (tx "drop")) S := fun S => ix_t S rfl
    have x1 : ∀ S, ixD (.tup [.str (tx "drop"), .str z]) (.int 1) S = .ok (.str z) S := fun S => ix_t S rfl
    have d1 : decide (tx "drop" = tx "set") = false := by decide +kernel
    have d2 : decide (tx "drop" = tx "send") = false := by decide +kernel
    have d3 : decide (tx "drop" ∈ [tx "wait", tx "drop"]) = true := by decide +kernel
    have d4 : decide (tx "drop" = tx "wait") = false := by decide +kernel
    obtain ⟨hS', hC'⟩ := hS.setAb o (putS s.al z none)
    have sA : setA (.loc L.ab) (.str z) .non S = .ok () (S.set L.ab (.dct (alD (putS s.al z none)))) := by
      rw [setA_d S .non hS.ab (key := Sum.inr z) rfl (by rw [sizeLine_eq]; unfold alD; rw [List.length_map]; omega)]
      congr 2
      exact congrArg MO.dct (putS_D oD s.al z none)
    rw [doS_drop]
    refine ⟨_, gq_same ?_ hC'.len rfl (trim_of hS' hC'), hS', hC', ⟨hG.ks, hG.wo, hG.cl⟩, ?_⟩
    · rw [F_Run_do_one]
      repeat (first | walk_at "ev" | simp only [x0, x1, d1, d2, inW, d3, d4, fA, sA])
    · have := putS_len s.al z none
      show s.sent.length + s.said.length + (putS s.al z none).length ≤ _
      omega
  | say he =>
    rename_i e
    have oe := (okD_tup hb).2 e (by simp)
    obtain ⟨q1, r1, r2⟩ := rk oe he
    have x0 : ∀ S, ixD (.tup [.str (tx "say"), e]) (.int 0) S = .ok (.str (tx "say")) S := fun S => ix_t S rfl
    have x1 : ∀ S, ixD (.tup [.str (tx "say"), e]) (.int 1) S = .ok e S := fun S => ix_t S rfl
    have d1 : decide (tx "say" = tx "set") = false := by decide +kernel
    have d2 : decide (tx "say" = tx "send") = false := by decide +kernel
    have d3 : decide (tx "say" ∈ [tx "wait", tx "drop"]) = false := by decide +kernel
    have n1 : ¬ tx "say" = tx "drop" := by decide +kernel
    obtain ⟨hS', hC'⟩ := hS.setDl o (s.said ++ [reck sz it s.bk e])
    have sA : appD (.loc L.dl) [.int (reck sz it s.bk e)] S = .ok .non (S.set L.dl (.lst (saidD (s.said ++ [reck sz it s.bk e])))) := by
      rw [app_l _ hS.dl (by rw [sizeLine_eq]; unfold saidD; rw [List.length_map]; omega)]
      congr 2
      unfold saidD
      rw [List.map_append]
      rfl
    have kl := kLM_l (f := appD) (ms := mCons (mMeth "Run" "reckoned" (gq (F_Run_reckoned 12)) (mVar 0) (mCons (m2 ixD (mVar 1) (mC (.int 1))) mNil)) mNil) (r := [some (.loc L.p), some (.tup [.str (tx "say"), e]), some (.str (tx "say")), none]) hS.dl
    rw [doS_say]
    refine ⟨_, gq_same ?_ hC'.len rfl (trim_of hS' hC'), hS', hC', ⟨hG.ks, hG.wo, hG.cl⟩, ?_⟩
    · rw [F_Run_do_one]
      repeat (first | walk_at "ev" | simp only [x0, x1, d1, d2, inW, d3, fD, kl, mR, q1, sA])
    · show s.sent.length + (s.said ++ [reck sz it s.bk e]).length + s.al.length ≤ _
      simp only [List.length_append, List.length_cons, List.length_nil]
      omega
  | set hz' he =>
    rename_i z e
    have oe := (okD_tup hb).2 e (by simp)
    obtain ⟨q1, r1, r2⟩ := rk oe he
    have x0 : ∀ S, ixD (.tup [.str (tx "set"), .str z, e]) (.int 0) S = .ok (.str (tx "set")) S := fun S => ix_t S rfl
    have x1 : ∀ S, ixD (.tup [.str (tx "set"), .str z, e]) (.int 1) S = .ok (.str z) S := fun S => ix_t S rfl
    have x2 : ∀ S, ixD (.tup [.str (tx "set"), .str z, e]) (.int 2) S = .ok e S := fun S => ix_t S rfl
    obtain ⟨hS', hC'⟩ := hS.setCb o (putS s.bk z (reck sz it s.bk e))
    have hbl : s.bk.length < sizeLine := by
      have := congrArg List.length hG.ks
      rw [List.length_map] at this
      have := hG.cl
      rw [sizeLine_eq]
      omega
    have sA : setA (.loc L.cb) (.str z) (.int (reck sz it s.bk e)) S = .ok () (S.set L.cb (.dct (bkD (putS s.bk z (reck sz it s.bk e))))) := by
      rw [setA_d S _ hS.cb (key := Sum.inr z) rfl (by unfold bkD; rw [List.length_map]; exact hbl)]
      congr 2
      exact congrArg MO.dct (putS_D D.int s.bk z (reck sz it s.bk e))
    rw [doS_set]
    refine ⟨_, gq_same ?_ hC'.len rfl (trim_of hS' hC'), hS', hC', ⟨?_, hG.wo.put r1 r2, hG.cl⟩, ?_⟩
    · rw [F_Run_do_one]
      repeat (first | walk_at "ev" | simp only [x0, x1, x2, mR, q1, fC, sA])
    · show (putS s.bk z _).map (·.1) = _
      rw [putS_keys (by rw [hG.ks]; exact hz'), hG.ks]
    · show s.sent.length + s.said.length + s.al.length ≤ _
      omega
  | send hz' he =>
    rename_i z e
    have oe := (okD_tup hb).2 e (by simp)
    obtain ⟨q1, r1, r2⟩ := rk oe he
    have x0 : ∀ S, ixD (.tup [.str (tx "send"), .str z, e]) (.int 0) S = .ok (.str (tx "send")) S := fun S => ix_t S rfl
    have x1 : ∀ S, ixD (.tup [.str (tx "send"), .str z, e]) (.int 1) S = .ok (.str z) S := fun S => ix_t S rfl
    have x2 : ∀ S, ixD (.tup [.str (tx "send"), .str z, e]) (.int 2) S = .ok e S := fun S => ix_t S rfl
    have d1 : decide (tx "send" = tx "set") = false := by decide +kernel
    have n1 : ¬ tx "send" = tx "set" := by decide +kernel
    obtain ⟨hS', hC'⟩ := hS.setSl o (s.sent ++ [(z, reck sz it s.bk e)])
    have sA : appD (.loc L.sl) [.tup [.str z, .int (reck sz it s.bk e)]] S = .ok .non (S.set L.sl (.lst (sentD (s.sent ++ [(z, reck sz it s.bk e)])))) := by
      rw [app_l _ hS.sl (by rw [sizeLine_eq]; unfold sentD; rw [List.length_map]; omega)]
      congr 2
      unfold sentD
      rw [List.map_append]
      rfl
    have kl := kLM_l (f := appD) (ms := mCons (mA tupD (mCons (m2 ixD (mVar 1) (mC (.int 1))) (mCons (mMeth "Run" "reckoned" (gq (F_Run_reckoned 12)) (mVar 0) (mCons (m2 ixD (mVar 1) (mC (.int 2))) mNil)) mNil))) mNil) (r := [some (.loc L.p), some (.tup [.str (tx "send"), .str z, e]), some (.str (tx "send")), none]) hS.sl
    rw [doS_send]
    refine ⟨_, gq_same ?_ hC'.len rfl (trim_of hS' hC'), hS', hC', ⟨hG.ks, hG.wo, hG.cl⟩, ?_⟩
    · rw [F_Run_do_one]
      repeat (first | walk_at "ev" | simp only [x0, x1, x2, d1, fS, kl, mR, q1, sA])
    · show (s.sent ++ [(z, reck sz it s.bk e)]).length + s.said.length + s.al.length ≤ _
      simp only [List.length_append, List.length_cons, List.length_nil]
      omega
  | wait hz' he =>
    rename_i z e
    have oe := (okD_tup hb).2 e (by simp)
    obtain ⟨q1, r1, r2⟩ := rk oe he
    have x0 : ∀ S, ixD (.tup [.str (tx "wait"), .str z, e]) (.int 0) S = .ok (.str (tx "wait")) S := fun S => ix_t S rfl
    have x1 : ∀ S, ixD (.tup [.str (tx "wait"), .str z, e]) (.int 1) S = .ok (.str z) S := fun S => ix_t S rfl
    have x2 : ∀ S, ixD (.tup [.str (tx "wait"), .str z, e]) (.int 2) S = .ok e S := fun S => ix_t S rfl
    have d1 : decide (tx "wait" = tx "set") = false := by decide +kernel
    have d2 : decide (tx "wait" = tx "send") = false := by decide +kernel
    have d3 : decide (tx "wait" ∈ [tx "wait", tx "drop"]) = true := by decide +kernel
    have n1 : ¬ tx "wait" = tx "set" := by decide +kernel
    have n2 : ¬ tx "wait" = tx "send" := by decide +kernel
    obtain ⟨hS', hC'⟩ := hS.setAb o (putS s.al z (some (reck sz it s.bk e)))
    have sA : setA (.loc L.ab) (.str z) (.int (reck sz it s.bk e)) S = .ok () (S.set L.ab (.dct (alD (putS s.al z (some (reck sz it s.bk e)))))) := by
      rw [setA_d S _ hS.ab (key := Sum.inr z) rfl (by rw [sizeLine_eq]; unfold alD; rw [List.length_map]; omega)]
      congr 2
      exact congrArg MO.dct (putS_D oD s.al z (some (reck sz it s.bk e)))
    rw [doS_wait]
    refine ⟨_, gq_same ?_ hC'.len rfl (trim_of hS' hC'), hS', hC', ⟨hG.ks, hG.wo, hG.cl⟩, ?_⟩
    · rw [F_Run_do_one]
      repeat (first | walk_at "ev" | simp only [x0, x1, x2, d1, d2, inW, d3, mR, q1, fA, sA])
    · have := putS_len s.al z (some (reck sz it s.bk e))
      show s.sent.length + s.said.length + (putS s.al z (some (reck sz it s.bk e))).length ≤ _
      omega
  | rep hpr he hb' =>
    rename_i e b p
    cases k with
    | zero => cases hpr
    | succ j =>
      cases hpr
      have oe := (okD_tup hb).2 e (by simp)
      have obb := (okD_tup hb).2 b (by simp)
      obtain ⟨q1, r1, r2⟩ := rk oe he
      have x0 : ∀ S, ixD (.tup [.str (tx "repeat"), e, b]) (.int 0) S = .ok (.str (tx "repeat")) S := fun S => ix_t S rfl
      have x1 : ∀ S, ixD (.tup [.str (tx "repeat"), e, b]) (.int 1) S = .ok e S := fun S => ix_t S rfl
      have x2 : ∀ S, ixD (.tup [.str (tx "repeat"), e, b]) (.int 2) S = .ok b S := fun S => ix_t S rfl
      have d1 : decide (tx "repeat" = tx "set") = false := by decide +kernel
      have d2 : decide (tx "repeat" = tx "send") = false := by decide +kernel
      have d3 : decide (tx "repeat" ∈ [tx "wait", tx "drop"]) = false := by decide +kernel
      have d4 : decide (tx "repeat" = tx "say") = false := by decide +kernel
      have d5 : decide (tx "repeat" = tx "if") = false := by decide +kernel
      have n1 : ¬ tx "repeat" = tx "set" := by decide +kernel
      have n2 : ¬ tx "repeat" = tx "send" := by decide +kernel
      have n3 : ¬ tx "repeat" = tx "wait" := by decide +kernel
      rw [doS_rep]
      show ∃ S', _ ∧ Stt S' L sz it (iter (doB sz it j b) (reck sz it s.bk e).toNat s) ∧ _ ∧ Good P.cs sz it (iter (doB sz it j b) (reck sz it s.bk e).toNat s) ∧ sizeS (iter (doB sz it j b) (reck sz it s.bk e).toNat s) ≤ _
      have hhi := w.hi
      generalize hv : reck sz it s.bk e = v at q1 r1 r2
      have hk5 : v.toNat ≤ 5 := by omega
      have hm : mRng1 (mCons (mMeth "Run" "reckoned" (gq (F_Run_reckoned 12)) (mVar 0) (mCons (m2 ixD (mVar 1) (mC (.int 1))) mNil)) mNil) [some (.loc L.p), some (.tup [.str (tx "repeat"), e, b]), some (.str (tx "repeat")), none] S = .ok (.rng 0 v.toNat) S := by
        repeat (first | walk_at "ev" | simp only [x1, mR, q1, rng1_i (show -4611686018427387904 ≤ v by omega) (show v < 4611686018427387904 by omega)])
      have hcost : oneCost (j + 1) = 5 * cost j := rfl
      rw [hcost] at hz ⊢
      obtain ⟨r', S', hf, ⟨x, rfl⟩, hS', hC', hG', hz'⟩ := sFor_inv v.toNat (fun i => .int (0 + (i : Int))) (g := gN 3) (b := sEx (mMeth "Run" "do_all" (gq (F_Run_do_all n)) (mVar 0) (mCons (m2 ixD (mVar 1) (mC (.int 2))) mNil)))
        (fun i r S1 => (∃ x, r = [some (.loc L.p), some (.tup [.str (tx "repeat"), e, b]), some (.str (tx "repeat")), x]) ∧ Stt S1 L sz it (iter (doB sz it j b) i s) ∧ Chg L S S1 ∧ Good P.cs sz it (iter (doB sz it j b) i s) ∧ sizeS (iter (doB sz it j b) i s) ≤ sizeS s + i * cost j)
        hm rfl (fun i r S1 _ => next_rng _ _ _ _)
        (fun i r S1 hi hI => by
          obtain ⟨⟨x, rfl⟩, hS1, hC1, hG1, hz1⟩ := hI
          have hle : i * cost j + cost j ≤ 5 * cost j := by
            have : (i + 1) * cost j ≤ 5 * cost j := Nat.mul_le_mul_right _ (by omega)
            rw [Nat.add_mul, Nat.one_mul] at this
            exact this
          obtain ⟨S2, e2, hS2, hC2, hG2, hz2⟩ := hA j rfl o hS1 hG1 obb hb' (by omega)
          have m1 := mD S1 hS1.p
          refine ⟨[some (.loc L.p), some (.tup [.str (tx "repeat"), e, b]), some (.str (tx "repeat")), some (.int (0 + (i : Int)))], S1, [some (.loc L.p), some (.tup [.str (tx "repeat"), e, b]), some (.str (tx "repeat")), some (.int (0 + (i : Int)))], S2, rfl, .inl ?_, ⟨_, rfl⟩, ?_, hC1.trans hC2, ?_, ?_⟩
          · repeat (first | walk_at "ev" | simp only [x2, m1, e2])
          · rw [iter_snoc]; exact hS2
          · rw [iter_snoc]; exact hG2
          · rw [iter_snoc, Nat.add_mul, Nat.one_mul]; omega) ⟨⟨_, rfl⟩, hS, Chg.refl L S, hG, by show sizeS s ≤ _; omega⟩
      have hle : v.toNat * cost j ≤ 5 * cost j := Nat.mul_le_mul_right _ hk5
      refine ⟨S', gq_same ?_ hC'.len rfl (trim_of hS' hC'), hS', hC', hG', by omega⟩
      rw [F_Run_do_one]
      repeat (first | walk_at "ev" | simp only [x0, d1, d2, inW, d3, d4, d5])
      rw [hf]
      rfl
  | cnd hpr hc hx hy =>
    rename_i c x y p
    cases k with
    | zero => cases hpr
    | succ j =>
      cases hpr
      have oc := (okD_tup hb).2 c (by simp)
      have ox := (okD_tup hb).2 x (by simp)
      have oy := (okD_tup hb).2 y (by simp)
      have hcost : oneCost (j + 1) = 5 * cost j := rfl
      rw [hcost] at hz ⊢
      rw [← hG.ks] at hc
      have q1 := is_so_q w (okD_nil oc S) hc hS.p hS.cb
      have x0 : ∀ S, ixD (.tup [.str (tx "if"), c, x, y]) (.int 0) S = .ok (.str (tx "if")) S := fun S => ix_t S rfl
      have x1 : ∀ S, ixD (.tup [.str (tx "if"), c, x, y]) (.int 1) S = .ok c S := fun S => ix_t S rfl
      have x2 : ∀ S, ixD (.tup [.str (tx "if"), c, x, y]) (.int 2) S = .ok x S := fun S => ix_t S rfl
      have x3 : ∀ S, ixD (.tup [.str (tx "if"), c, x, y]) (.int 3) S = .ok y S := fun S => ix_t S rfl
      have d1 : decide (tx "if" = tx "set") = false := by decide +kernel
      have d2 : decide (tx "if" = tx "send") = false := by decide +kernel
      have d3 : decide (tx "if" ∈ [tx "wait", tx "drop"]) = false := by decide +kernel
      have d4 : decide (tx "if" = tx "say") = false := by decide +kernel
      rw [doS_if]
      show ∃ S', _ ∧ Stt S' L sz it (if condB sz it s.bk c = true then doB sz it j x s else doB sz it j y s) ∧ _ ∧ Good P.cs sz it (if condB sz it s.bk c = true then doB sz it j x s else doB sz it j y s) ∧ sizeS (if condB sz it s.bk c = true then doB sz it j x s else doB sz it j y s) ≤ _
      have m1 := mD S hS.p
      cases hcb : condB sz it s.bk c with
      | true =>
        rw [hcb] at q1
        obtain ⟨S2, e2, hS2, hC2, hG2, hz2⟩ := hA j rfl o hS hG ox hx (by omega)
        rw [if_pos rfl]
        refine ⟨S2, gq_same ?_ hC2.len rfl (trim_of hS2 hC2), hS2, hC2, hG2, by omega⟩
        rw [F_Run_do_one]
        repeat (first | walk_at "ev" | simp only [x0, x1, x2, d1, d2, inW, d3, d4, mS, q1, m1, e2])
      | false =>
        rw [hcb] at q1
        obtain ⟨S2, e2, hS2, hC2, hG2, hz2⟩ := hA j rfl o hS hG oy hy (by omega)
        rw [if_neg Bool.false_ne_true]
        refine ⟨S2, gq_same ?_ hC2.len rfl (trim_of hS2 hC2), hS2, hC2, hG2, by omega⟩
        rw [F_Run_do_one]
        repeat (first | walk_at "ev" | simp only [x0, x1, x3, d1, d2, inW, d3, d4, mS, q1, m1, e2])
theorem all_q (P : Ports) (sz it : Int) : ∀ k n : Nat, 2 * k + 2 ≤ n → AllOk P sz it k n := by
  intro k
  induction k with
  | zero =>
    intro n hn
    obtain ⟨m, rfl⟩ : ∃ m, n = m + 2 := ⟨n - 2, by omega⟩
    exact all_of_one (one_of_all fun j hj => by omega)
  | succ k ih =>
    intro n hn
    obtain ⟨m, rfl⟩ : ∃ m, n = m + 2 := ⟨n - 2, by omega⟩
    exact all_of_one (one_of_all fun j hj => by
      have : j = k := by omega
      rw [this]
      exact @ih m (by omega))
end Lw
namespace Lw
open PySem PySem.Spec PyProof.Rows L2 Fa
local macro_rules | `(tactic| walk_at "ev") => `(tactic| simp only [bK_ok, bK_err, bK_bad, bnd_ap, ret_ap, fail_ap, mVar_ap, vK_some, mC_ap, m1_ap, m2_ap, k2_ap, mNil_ap, mCons_ap, kCons_ap, kCon_ap, mA_ap, mIf_ap, kIf_t, kIf_f, tOf_ap, isBl_ap, tNt_ap, kNt_ap, tAn_ap, kAn_t, kAn_f, tOr_ap, kOr_t, kOr_f, mNot_ap, kNot_ap, mAnd_ap, kAnd_t, kAnd_f, mOr_ap, kOrV_t, kOrV_f,
  sSeq_ap, sK_nx, sK_rt, sK_bk, sK_ct, sK_ex, sK_bad, oK_ok, oK_err, oK_bad, kNx_ap, kRt_ap, sEx_ap, sRet_ap, sRetN_ap, sNx_ap, sBad_ap, sIf_ap, kIfS_t, kIfS_f, gN_ap, gT_ap, gT_tt, gTc_ap, gT0_ap, sAs_ap, kAs_ap, kAs2_ok, sPar_ap, kPar_ap, gSubD_ap, kSub1_ap, kSub2_ap, kSub3_ap, fK_nx, fK_rt, fK_ex, mLM_ap, mRng1_ap, mRng2_ap, mSrc_ap, src_t, src_r, src_s, src_k,
  mChain_ap, kCh1_ap, kCh2_ap, kCh3_t, kCh3_f, mSl_ap, kSl1_ap, kSl2_ap, mSlT_ap, kTl1_ap, kTl2_ap, mP0_ap, mP_ap, intO_ap, sl_t, dfl_ap, mTM_ap, kTM_k, kTM_t, mMeth_ap, kMe1_ap, kMe2_ap, kMe3_ap, gFld_ap, kF1_ap, gSubA_ap, kSA1_ap, kSA2_ap, sPar3_ap, kPar3_ap, mkD_ap, mkR_ok, dct0D_ap, mDisp_ap, mPairs_nil, mPairs_cons, kPr1_ap, kPr2_ap, kPr3_ap, tuple_t, list_t, mZip_ap, zip_tt,
  wipeE, nc0, nc1, nc2, nc3, nc4, nc5, nc6, nc7, nc8, nc9, nc10, nc11, nc12, nc13, nc14, nc15, Int.reduceEq, Int.reduceLE, Int.reduceLT, Int.reduceSub, Int.reduceAdd,
  fnM_ap, tupD_ap, lstD_ap, le_line, Nat.reduceLeDiff, eq_self,
  add_ii, sub_ii, neg_i, lt_ii, le_ii, gt_ii, ge_ii, isN_n, isN_i, isN_t, isN_s, isN_b, isN_l, abs_i, max_ii, min_ii, int_i, int_b, len_t, len_r, eq_ii, eq_bb, eq_ss,
  List.map_cons, List.map_nil, List.cons_append, List.nil_append, List.append_nil, List.replicate_succ, List.replicate_zero, List.length_cons, List.length_nil, Nat.reduceSub, Nat.reduceAdd, Nat.sub_self, Nat.zero_add,
  List.getElem?_cons_succ, List.getElem?_cons_zero, List.set_cons_succ, List.set_cons_zero, Bool.not_true, Bool.not_false, decide_true, decide_false, if_true, if_false, reduceIte, Bool.false_eq_true])
/-! ### a run of a handler -/
theorem set_app {S l : Sto} {p : Nat} (o : MO) (h : p < S.length) : (S ++ l).set p o = S.set p o ++ l := by
  rw [List.set_append, if_pos h]
theorem init_q {S : Sto} {p cb : Nat} {sz it : Int} (h : S[p]? = some (.ins rn [])) :
    F_Run___init__ [.loc p, .int sz, .loc cb, .int it] S = .ok .non (S.set p (.ins rn (runFs ⟨p, cb, S.length, S.length + 1, S.length + 2⟩ sz it)) ++ [.lst [], .dct [], .lst []]) := by
  have hp := at_lt h
  have c1 : tx "Run" ∈ [tx "Run"] := by simp
  obtain ⟨S1, hS1⟩ : ∃ S1, S1 = S.set p (.ins rn [(tx "run_size", .int sz)]) := ⟨_, rfl⟩
  have g1 : S1[p]? = some (.ins rn [(tx "run_size", .int sz)]) := by rw [hS1]; exact List.getElem?_set_self hp
  have s1 : setF [tx "Run"] (tx "run_size") (.loc p) (.int sz) S = .ok () S1 := by rw [hS1]; exact setF_l S _ h c1 (by simp)
  obtain ⟨S2, hS2⟩ : ∃ S2, S2 = S.set p (.ins rn [(tx "run_size", .int sz), (tx "cell_book", .loc cb)]) := ⟨_, rfl⟩
  have g2 : S2[p]? = some (.ins rn [(tx "run_size", .int sz), (tx "cell_book", .loc cb)]) := by rw [hS2]; exact List.getElem?_set_self hp
  have s2 : setF [tx "Run"] (tx "cell_book") (.loc p) (.loc cb) S1 = .ok () S2 := by
    rw [setF_l S1 _ g1 c1 (by simp), hS1, hS2, List.set_set]
    congr 3
    try simp only [putFD, if_neg (show ¬ tx "run_size" = tx "cell_book" by decide +kernel)]
  obtain ⟨S3, hS3⟩ : ∃ S3, S3 = S.set p (.ins rn [(tx "run_size", .int sz), (tx "cell_book", .loc cb), (tx "letter_worth", .int it)]) := ⟨_, rfl⟩
  have g3 : S3[p]? = some (.ins rn [(tx "run_size", .int sz), (tx "cell_book", .loc cb), (tx "letter_worth", .int it)]) := by rw [hS3]; exact List.getElem?_set_self hp
  have s3 : setF [tx "Run"] (tx "letter_worth") (.loc p) (.int it) S2 = .ok () S3 := by
    rw [setF_l S2 _ g2 c1 (by simp), hS2, hS3, List.set_set]
    congr 3
    try simp only [putFD, if_neg (show ¬ tx "run_size" = tx "letter_worth" by decide +kernel), if_neg (show ¬ tx "cell_book" = tx "letter_worth" by decide +kernel)]
  have l3 : S3.length = S.length := by rw [hS3]; simp
  have a1 : S3 ++ [MO.lst []] ++ [.dct []] = S3 ++ [.lst [], .dct []] := by rw [List.append_assoc]; rfl
  have a2 : S3 ++ [MO.lst [], .dct []] ++ [.lst []] = S3 ++ [.lst [], .dct [], .lst []] := by rw [List.append_assoc]; rfl
  have n1 : (S3 ++ [MO.lst []]).length = S.length + 1 := by simp [l3]
  have n2 : (S3 ++ [MO.lst [], .dct []]).length = S.length + 2 := by simp [l3]
  obtain ⟨T, hT⟩ : ∃ T, T = S3 ++ [MO.lst [], .dct [], .lst []] := ⟨_, rfl⟩
  have hp3 : p < S3.length := by rw [l3]; exact hp
  have g4 : T[p]? = some (.ins rn [(tx "run_size", .int sz), (tx "cell_book", .loc cb), (tx "letter_worth", .int it)]) := by rw [hT]; exact at_old g3
  obtain ⟨T1, hT1⟩ : ∃ T1, T1 = T.set p (.ins rn [(tx "run_size", .int sz), (tx "cell_book", .loc cb), (tx "letter_worth", .int it), (tx "sent_list", .loc S.length)]) := ⟨_, rfl⟩
  have hpT : p < T.length := at_lt g4
  have g5 : T1[p]? = some (.ins rn [(tx "run_size", .int sz), (tx "cell_book", .loc cb), (tx "letter_worth", .int it), (tx "sent_list", .loc S.length)]) := by rw [hT1]; exact List.getElem?_set_self hpT
  have s4 : setF [tx "Run"] (tx "sent_list") (.loc p) (.loc S.length) T = .ok () T1 := by
    rw [setF_l T _ g4 c1 (by simp), hT1]
    congr 3
    try simp only [putFD, if_neg (show ¬ tx "run_size" = tx "sent_list" by decide +kernel), if_neg (show ¬ tx "cell_book" = tx "sent_list" by decide +kernel), if_neg (show ¬ tx "letter_worth" = tx "sent_list" by decide +kernel)]
  obtain ⟨T2, hT2⟩ : ∃ T2, T2 = T.set p (.ins rn [(tx "run_size", .int sz), (tx "cell_book", .loc cb), (tx "letter_worth", .int it), (tx "sent_list", .loc S.length), (tx "alarm_book", .loc (S.length + 1))]) := ⟨_, rfl⟩
  have g6 : T2[p]? = some (.ins rn [(tx "run_size", .int sz), (tx "cell_book", .loc cb), (tx "letter_worth", .int it), (tx "sent_list", .loc S.length), (tx "alarm_book", .loc (S.length + 1))]) := by rw [hT2]; exact List.getElem?_set_self hpT
  have s5 : setF [tx "Run"] (tx "alarm_book") (.loc p) (.loc (S.length + 1)) T1 = .ok () T2 := by
    rw [setF_l T1 _ g5 c1 (by simp), hT1, hT2, List.set_set]
    congr 3
    try simp only [putFD, if_neg (show ¬ tx "run_size" = tx "alarm_book" by decide +kernel), if_neg (show ¬ tx "cell_book" = tx "alarm_book" by decide +kernel), if_neg (show ¬ tx "letter_worth" = tx "alarm_book" by decide +kernel), if_neg (show ¬ tx "sent_list" = tx "alarm_book" by decide +kernel)]
  have s6 : setF [tx "Run"] (tx "said_list") (.loc p) (.loc (S.length + 2)) T2 = .ok () (S.set p (.ins rn (runFs ⟨p, cb, S.length, S.length + 1, S.length + 2⟩ sz it)) ++ [.lst [], .dct [], .lst []]) := by
    rw [setF_l T2 _ g6 c1 (by simp), hT2, List.set_set, hT, set_app _ hp3, hS3, List.set_set]
    congr 4
    try simp only [putFD, if_neg (show ¬ tx "run_size" = tx "said_list" by decide +kernel), if_neg (show ¬ tx "cell_book" = tx "said_list" by decide +kernel), if_neg (show ¬ tx "letter_worth" = tx "said_list" by decide +kernel), if_neg (show ¬ tx "sent_list" = tx "said_list" by decide +kernel), if_neg (show ¬ tx "alarm_book" = tx "said_list" by decide +kernel)]
    try rfl
  have hz0 : (0 : Nat) ≤ sizeLine := Nat.zero_le _
  unfold F_Run___init__
  repeat (first | walk_at "ev" | simp only [s1, s2, s3, l3, a1, n1, a2, n2, ← hT, s4, s5, s6, hz0])
def zipD (xs ys : List D) : List D := List.zipWith (fun a b => D.ttp [a, b]) xs ys
theorem next_zip (xs ys : List D) (i : Nat) (S : Sto) : nextD (.zip xs ys) i S = some (zipD xs ys)[i]? := by
  show some (match xs[i]?, ys[i]? with
    | some a, some b => some (D.ttp [a, b])
    | _, _ => none) = _
  unfold zipD
  rw [List.getElem?_zipWith]
  cases xs[i]? <;> cases ys[i]? <;> rfl
def cellS (d : D) : Str := strOf (fstD d)
/-- what a handler does -/
def resS (sz it : Int) (s : Stn) (ws : List Int) (b : D) : RS := doB sz it 2 b ⟨(s.c.map cellS).zip ws, [], [], []⟩
def touch (r : RS) (als : List Str) : List (Str × Option Int) := als.filterMap fun a => (r.al.lookup a).map fun v => (a, v)
def resD (r : RS) (als : List Str) : D := .tup [.tup (r.bk.map fun p => .int p.2), .tup (sentD r.sent), .tup ((touch r als).map fun p => .tup [.str p.1, oD p.2]), .tup (saidD r.said)]
theorem alD_val (z : Str) : ∀ al : List (Str × Option Int), valKD (alD al) (Sum.inr z) = (al.lookup z).map oD
  | [] => rfl
  | p :: bk => by
    have ih := alD_val z bk
    unfold valKD alD at ih ⊢
    rw [List.map_cons, List.find?_cons]
    obtain ⟨k, v⟩ := p
    rw [List.lookup_cons]
    by_cases h : k = z
    · subst h
      simp
    · have h1 : decide ((Sum.inr k : Key) = Sum.inr z) = false := decide_eq_false fun e => h (by injection e)
      have h2 : (z == k) = false := beq_eq_false_iff_ne.mpr fun e => h e.symm
      simp only [h1, h2]
      exact ih
theorem lookup_own : ∀ {bk : Bk}, (bk.map (·.1)).Nodup → (bk.map (·.1)).map (fun z => (bk.lookup z).getD 0) = bk.map (·.2)
  | [], _ => rfl
  | (k, v) :: bk, h => by
    rw [List.map_cons, List.nodup_cons] at h
    rw [List.map_cons, List.map_cons, List.map_cons, ← lookup_own h.2]
    congr 1
    · simp [List.lookup_cons]
    · apply List.map_congr_left
      intro z hz
      have : (z == k) = false := beq_eq_false_iff_ne.mpr fun e => h.1 (e ▸ hz)
      rw [List.lookup_cons]
      simp only [this]
end Lw
namespace Lw
open PySem PySem.Spec PyProof.Rows L2 Fa
local macro_rules | `(tactic| walk_at "ev") => `(tactic| simp only [bK_ok, bK_err, bK_bad, bnd_ap, ret_ap, fail_ap, mVar_ap, vK_some, mC_ap, m1_ap, m2_ap, k2_ap, mNil_ap, mCons_ap, kCons_ap, kCon_ap, mA_ap, mIf_ap, kIf_t, kIf_f, tOf_ap, isBl_ap, tNt_ap, kNt_ap, tAn_ap, kAn_t, kAn_f, tOr_ap, kOr_t, kOr_f, mNot_ap, kNot_ap, mAnd_ap, kAnd_t, kAnd_f, mOr_ap, kOrV_t, kOrV_f,
  sSeq_ap, sK_nx, sK_rt, sK_bk, sK_ct, sK_ex, sK_bad, oK_ok, oK_err, oK_bad, kNx_ap, kRt_ap, sEx_ap, sRet_ap, sRetN_ap, sNx_ap, sBad_ap, sIf_ap, kIfS_t, kIfS_f, gN_ap, gT_ap, gT_tt, gTc_ap, gT0_ap, sAs_ap, kAs_ap, kAs2_ok, sPar_ap, kPar_ap, gSubD_ap, kSub1_ap, kSub2_ap, kSub3_ap, fK_nx, fK_rt, fK_ex, mLM_ap, mRng1_ap, mRng2_ap, mSrc_ap, src_t, src_r, src_s, src_k,
  mChain_ap, kCh1_ap, kCh2_ap, kCh3_t, kCh3_f, mSl_ap, kSl1_ap, kSl2_ap, mSlT_ap, kTl1_ap, kTl2_ap, mP0_ap, mP_ap, intO_ap, sl_t, dfl_ap, mTM_ap, kTM_k, kTM_t, mMeth_ap, kMe1_ap, kMe2_ap, kMe3_ap, gFld_ap, kF1_ap, gSubA_ap, kSA1_ap, kSA2_ap, sPar3_ap, kPar3_ap, mkD_ap, mkR_ok, dct0D_ap, mDisp_ap, mPairs_nil, mPairs_cons, kPr1_ap, kPr2_ap, kPr3_ap, tuple_t, list_t, mZip_ap, zip_tt,
  wipeE, nc0, nc1, nc2, nc3, nc4, nc5, nc6, nc7, nc8, nc9, nc10, nc11, nc12, nc13, nc14, nc15, Int.reduceEq, Int.reduceLE, Int.reduceLT, Int.reduceSub, Int.reduceAdd,
  fnM_ap, tupD_ap, lstD_ap, le_line, Nat.reduceLeDiff, eq_self,
  add_ii, sub_ii, neg_i, lt_ii, le_ii, gt_ii, ge_ii, isN_n, isN_i, isN_t, isN_s, isN_b, isN_l, abs_i, max_ii, min_ii, int_i, int_b, len_t, len_r, eq_ii, eq_bb, eq_ss,
  List.map_cons, List.map_nil, List.cons_append, List.nil_append, List.append_nil, List.replicate_succ, List.replicate_zero, List.length_cons, List.length_nil, Nat.reduceSub, Nat.reduceAdd, Nat.sub_self, Nat.zero_add,
  List.getElem?_cons_succ, List.getElem?_cons_zero, List.set_cons_succ, List.set_cons_zero, Bool.not_true, Bool.not_false, decide_true, decide_false, if_true, if_false, reduceIte, Bool.false_eq_true])
theorem cell_of {sz : Int} {c : List D} (h : cellsP sz (.tup c) = true) : ∀ d ∈ c, ∃ z v, d = .tup [.str z, .int v] ∧ nameS z = true := by
  simp only [cellsP, Bool.and_eq_true] at h
  intro d hd
  have h1 := List.all_eq_true.mp h.2.1 d hd
  have h2 := List.all_eq_true.mp h.2.2 d hd
  match d, h1, h2 with
  | .tup [a, b], h1, h2 =>
    have h1 : nameP a = true := h1
    have h2 : numP 0 (some (sz - 1)) b = true := h2
    obtain ⟨v, rfl, _⟩ := numP_i h2
    cases a with
    | str z => exact ⟨z, v, rfl, h1⟩
    | _ => cases h1
theorem cells_len {sz : Int} {c : List D} (h : cellsP sz (.tup c) = true) : c.length ≤ 3 := by
  simp only [cellsP, Bool.and_eq_true, decide_eq_true_eq] at h
  exact h.1
theorem zip_fst {α β : Type} : ∀ {xs : List α} {ys : List β}, xs.length = ys.length → (xs.zip ys).map (·.1) = xs
  | [], [], _ => rfl
  | x :: xs, y :: ys, h => by
    rw [List.zip_cons_cons, List.map_cons, zip_fst (by simpa using h)]
theorem zip_mem2 {α β : Type} {xs : List α} {ys : List β} {p : α × β} (h : p ∈ xs.zip ys) : p.2 ∈ ys := (List.of_mem_zip h).2
theorem zipD_eq : ∀ xs ys : List D, zipD xs ys = (xs.zip ys).map fun p => D.ttp [p.1, p.2]
  | [], _ => rfl
  | _ :: _, [] => rfl
  | x :: xs, y :: ys => by
    show D.ttp [x, y] :: zipD xs ys = _
    rw [zipD_eq xs ys]
    rfl
theorem zipD_items {c : List D} {ws : List Int} (hc : ∀ d ∈ c, ∃ z v, d = .tup [.str z, .int v] ∧ nameS z = true) : ∀ d ∈ zipD c (ws.map D.int), ∃ z v w, d = .ttp [.tup [.str z, .int v], .int w] := by
  intro d hd
  rw [zipD_eq] at hd
  obtain ⟨p, hp, rfl⟩ := List.mem_map.mp hd
  obtain ⟨h1, h2⟩ := List.of_mem_zip hp
  obtain ⟨z, v, e, _⟩ := hc p.1 h1
  obtain ⟨w, _, e2⟩ := List.mem_map.mp h2
  exact ⟨z, v, w, by rw [e, ← e2]⟩
def ttS : D → Str
  | .ttp (c :: _) => cellS c
  | _ => ⟨#[]⟩
def ttK : D → D
  | .ttp (c :: _) => fstD c
  | _ => .non
def ttV : D → D
  | .ttp [_, w] => w
  | _ => .non
theorem zipD_book {c : List D} (ws : List Int) : ((zipD c (ws.map D.int)).map fun d => ((Sum.inr (ttS d) : Key), ttV d)) = bkD ((c.map cellS).zip ws) := by
  unfold bkD
  rw [zipD_eq, List.map_map]
  induction c generalizing ws with
  | nil => rfl
  | cons d c ih =>
    cases ws with
    | nil => rfl
    | cons w ws =>
      rw [List.map_cons, List.zip_cons_cons, List.map_cons, List.map_cons, List.zip_cons_cons, List.map_cons, ih ws]
      rfl
theorem zipD_keys {c : List D} {ws : List Int} (h : c.length = ws.length) : (zipD c (ws.map D.int)).map (fun d => (Sum.inr (ttS d) : Key)) = (c.map cellS).map fun z => Sum.inr z := by
  have := congrArg (List.map (·.1)) (zipD_book (c := c) ws)
  rw [List.map_map] at this
  have e : ((fun x => x.fst) ∘ fun d => ((Sum.inr (ttS d) : Key), ttV d)) = fun d => (Sum.inr (ttS d) : Key) := rfl
  rw [e] at this
  rw [this]
  unfold bkD
  rw [List.map_map]
  have : ((fun x => x.fst) ∘ fun p : Str × Int => ((Sum.inr p.1 : Key), D.int p.2)) = (fun z => (Sum.inr z : Key)) ∘ fun p : Str × Int => p.1 := rfl
  rw [this, ← List.map_map, zip_fst (by rw [List.length_map]; exact h)]
theorem keep_of {L : Lcs} {S T T' : Sto} (c : Chg L T T') (h : ∃ l, T = S ++ l) (h1 : S.length ≤ L.cb) (h2 : S.length ≤ L.sl) (h3 : S.length ≤ L.ab) (h4 : S.length ≤ L.dl) : ∃ l, T' = S ++ l := by
  obtain ⟨l, rfl⟩ := h
  refine ⟨T'.drop S.length, ?_⟩
  apply List.ext_getElem?
  intro i
  by_cases hi : i < S.length
  · rw [List.getElem?_append_left hi, c.at_ i (by omega) (by omega) (by omega) (by omega), List.getElem?_append_left hi]
  · rw [List.getElem?_append_right (by omega), List.getElem?_drop]
    congr 1
    omega
theorem run_station_q {S : Sto} {sz it : Int} {s : Stn} {ws : List Int} {k : Nat} {b : D} (hs : StnOk sz s) (hsz : 2 ≤ sz ∧ sz ≤ 6) (ho : okD [] s.d = true) (hw : ws.length = s.c.length) (hws : ∀ w ∈ ws, 0 ≤ w ∧ w < sz) (hit : 0 ≤ it ∧ it < sz) (hb : s.b[k]? = some b) :
    gq F_run_station [.int sz, s.d, .tup (ws.map D.int), .int (k : Int), .int it] S = .ok (resD (resS sz it s ws b) s.a) S := by
  have hc := cell_of hs.cl
  have hcl := cells_len hs.cl
  have hnd : (s.c.map cellS).Nodup := by
    have := hs.un
    rw [List.append_assoc, List.append_assoc, List.nodup_append] at this
    exact this.1
  have hbm : b ∈ s.b := List.mem_of_getElem? hb
  have hpb : progP ⟨s.c.map cellS, s.o, s.a⟩ sz 2 b = true := List.all_eq_true.mp hs.pr b hbm
  have hob : okD [] b = true := (okD_tup ((okD_tup ho).2 (.tup s.b) (by simp))).2 b hbm
  -- the book
  have mB : mDc false (mZip (mCons (mVar 6) (mCons (mVar 2) mNil))) (gT (gTc (gN 14) (gTc (gN 15) gT0))) tT (m2 ixD (mVar 14) (mC (.int 0))) (mVar 15) [14, 15]
      [some (.int sz), some s.d, some (.tup (ws.map D.int)), some (.int (k : Int)), some (.int it), some (.str s.z), some (.tup s.c), some (.tup (s.i.map D.str)), some (.tup (s.o.map D.str)), some (.tup (s.a.map D.str)), some (.tup s.b), none, none, none, none, none, none] S
      = .ok (.loc S.length) (S ++ [.dct (bkD ((s.c.map cellS).zip ws))]) := by
    rw [← zipD_book]
    refine mDc_kv (S0 := S) (src := .zip s.c (ws.map D.int)) (zipD s.c (ws.map D.int)) (fun d => Sum.inr (ttS d)) ttK ttV (by walk_at "ev") ?_ (fun l i => next_zip _ _ _ _) (fun d hd => ?_) ?_ (fun d hd l => ?_) ?_
    · show min s.c.length (ws.map D.int).length = _
      unfold zipD
      rw [List.length_zipWith]
    · obtain ⟨z, v, w, rfl⟩ := zipD_items hc d hd
      rfl
    · rw [zipD_keys hw.symm, nodup_keys]
      exact hnd
    · obtain ⟨z, v, w, rfl⟩ := zipD_items hc d hd
      have x0 : ∀ S, ixD (.tup [.str z, .int v]) (.int 0) S = .ok (.str z) S := fun S => ix_t S rfl
      refine ⟨_, rfl, ?_, ?_⟩
      · repeat (first | walk_at "ev" | simp only [x0, ttK, fstD])
      · repeat (first | walk_at "ev" | simp only [ttV])
    · unfold zipD
      rw [List.length_zipWith]
      exact le_line (by omega)
  obtain ⟨bk0, hbk0⟩ : ∃ bk0, bk0 = (s.c.map cellS).zip ws := ⟨_, rfl⟩
  rw [← hbk0] at mB
  obtain ⟨S1, hS1⟩ : ∃ S1, S1 = S ++ [.dct (bkD bk0)] ++ [.ins rn []] := ⟨_, rfl⟩
  have l1 : (S ++ [MO.dct (bkD bk0)]).length = S.length + 1 := by simp
  have lS1 : S1.length = S.length + 2 := by rw [hS1]; simp
  have p1 : S1[S.length + 1]? = some (.ins rn []) := by rw [hS1, ← l1]; exact at_end _ _
  have q1 := init_q (cb := S.length) (sz := sz) (it := it) p1
  obtain ⟨L, hL⟩ : ∃ L : Lcs, L = ⟨S.length + 1, S.length, S1.length, S1.length + 1, S1.length + 2⟩ := ⟨_, rfl⟩
  rw [← hL] at q1
  obtain ⟨T, hT⟩ : ∃ T, T = S1.set (S.length + 1) (.ins rn (runFs L sz it)) ++ [.lst [], .dct [], .lst []] := ⟨_, rfl⟩
  rw [← hT] at q1
  have eT : T = S ++ [.dct (bkD bk0), .ins rn (runFs L sz it), .lst [], .dct [], .lst []] := by
    rw [hT, hS1, ← l1, set_end, List.append_assoc, List.append_assoc]
    rfl
  have oL : L.Ok := by
    rw [hL]
    refine ⟨⟨?_, ?_, ?_, ?_⟩, ⟨?_, ?_, ?_⟩, ⟨?_, ?_⟩, ?_⟩ <;> simp only [ne_eq, lS1] <;> omega
  have atT : ∀ (j : Nat) (o : MO), ([MO.dct (bkD bk0), .ins rn (runFs L sz it), .lst [], .dct [], .lst []])[j]? = some o → T[S.length + j]? = some o := fun j o h => by
    rw [eT, List.getElem?_append_right (by omega), show S.length + j - S.length = j by omega]
    exact h
  have st0 : Stt T L sz it ⟨bk0, [], [], []⟩ := by
    refine ⟨?_, ?_, ?_, ?_, ?_⟩
    · have e : L.p = S.length + 1 := by rw [hL]
      rw [e]; exact atT 1 _ rfl
    · rw [hL]; exact atT 0 _ rfl
    · rw [hL]; simp only [lS1]; exact atT 2 _ rfl
    · rw [hL]; simp only [lS1]; exact atT 3 _ rfl
    · rw [hL]; simp only [lS1]; exact atT 4 _ rfl
  have gd0 : Good (s.c.map cellS) sz it ⟨bk0, [], [], []⟩ := by
    refine ⟨?_, ⟨hsz.1, hsz.2, hit.1, hit.2, fun p hp => ?_⟩, ?_⟩
    · show bk0.map (·.1) = _
      rw [hbk0]
      exact zip_fst (by rw [List.length_map]; exact hw.symm)
    · have hp : p ∈ bk0 := hp
      rw [hbk0] at hp
      exact hws _ (zip_mem2 hp)
    · rw [List.length_map]; omega
  obtain ⟨T', e2, hS', hC', hG', _⟩ := all_q ⟨s.c.map cellS, s.o, s.a⟩ sz it 2 12 (by decide) oL st0 gd0 hob hpb (by show 0 + 0 + 0 + cost 2 ≤ 1000000; decide)
  have hr : resS sz it s ws b = doB sz it 2 b ⟨bk0, [], [], []⟩ := by rw [hbk0]; rfl
  rw [hr]
  generalize doB sz it 2 b ⟨bk0, [], [], []⟩ = r at hS' hG'
  have eL : D.loc (S.length + 1) = .loc L.p := by rw [hL]
  rw [eL] at q1
  have mA0 : isIns (tx "Run") (tx "do_all") (.loc L.p) T = .ok () T := isIns_l T st0.p (rf_none (by decide +kernel) L sz it)
  have xb : ∀ S, ixD (.tup s.b) (.int (k : Int)) S = .ok b S := fun S => ix_tn S hb
  have kl : ∃ l, T' = S ++ l := keep_of hC' ⟨_, eT⟩ (by rw [hL]; exact Nat.le_refl _) (by rw [hL]; simp only [lS1]; omega) (by rw [hL]; simp only [lS1]; omega) (by rw [hL]; simp only [lS1]; omega)
  obtain ⟨l, hl⟩ := kl
  have fld : ∀ (f : Str) (d : D), (runFs L sz it).lookup f = some d → ∀ l', fldD [tx "Run"] f (.loc L.p) (T' ++ l') = .ok d (T' ++ l') := fun f d h l' => fld_l _ (at_old hS'.p) (by simp) h
  have fC := fld _ _ (rf_cells L sz it)
  have fS := fld _ _ (rf_sent L sz it)
  have fA := fld _ _ (rf_alarms L sz it)
  have fD := fld _ _ (rf_said L sz it)
  -- the worths behind
  have m2' : mLc (mSrc (mVar 6)) (gN 14) tT (m2 ixA (m1 (fldD ["Run"] "cell_book") (mVar 11)) (m2 ixD (mVar 14) (mC (.int 0)))) [14]
      [some (.int sz), some s.d, some (.tup (ws.map D.int)), some (.int (k : Int)), some (.int it), some (.str s.z), some (.tup s.c), some (.tup (s.i.map D.str)), some (.tup (s.o.map D.str)), some (.tup (s.a.map D.str)), some (.tup s.b), some (.loc L.p), none, none, none, none, none] T'
      = .ok (.loc T'.length) (T' ++ [.lst (r.bk.map fun p => .int p.2)]) := by
    have hbk : r.bk.map (fun p => D.int p.2) = s.c.map fun d => D.int ((r.bk.lookup (cellS d)).getD 0) := by
      have := lookup_own (bk := r.bk) (by rw [hG'.ks]; exact hnd)
      have h2 := congrArg (List.map D.int) this
      rw [hG'.ks, List.map_map, List.map_map, List.map_map] at h2
      exact h2.symm
    rw [hbk]
    refine mLc_map (S0 := T') (src := .items s.c) s.c (fun d => D.int ((r.bk.lookup (cellS d)).getD 0)) (by walk_at "ev") rfl (fun _ _ => rfl) (fun d hd l' => ?_) (le_line (by omega))
    obtain ⟨z, v, rfl, _⟩ := hc d hd
    have x0 : ∀ S, ixD (.tup [.str z, .int v]) (.int 0) S = .ok (.str z) S := fun S => ix_t S rfl
    have hz : z ∈ r.bk.map (·.1) := by
      rw [hG'.ks]
      exact List.mem_map.mpr ⟨_, hd, rfl⟩
    obtain ⟨w, e1, _⟩ := lk_mem hz
    have g1 : ixA (.loc L.cb) (.str z) (T' ++ l') = .ok (.int w) (T' ++ l') := ixA_d _ (at_old hS'.cb) (key := Sum.inr z) rfl (by rw [bkD_val, e1]; rfl)
    refine ⟨_, rfl, ?_⟩
    repeat (first | walk_at "ev" | simp only [fC, x0, g1])
    show _ = Res.ok (D.int ((r.bk.lookup z).getD 0)) _
    rw [e1]
    rfl
  obtain ⟨U, hU⟩ : ∃ U, U = T' ++ [.lst (r.bk.map fun p => .int p.2)] := ⟨_, rfl⟩
  rw [← hU] at m2'
  have t1 : tupleD [.loc T'.length] U = .ok (.tup (r.bk.map fun p => .int p.2)) U := by rw [hU]; exact tuple_l _ (at_end _ _)
  -- the alarms
  have m3 : mLc (mSrc (mVar 9)) (gN 16) (tOf (m2 (inDA false) (mVar 16) (m1 (fldD ["Run"] "alarm_book") (mVar 11)))) (mA tupD (mCons (mVar 16) (mCons (m2 ixA (m1 (fldD ["Run"] "alarm_book") (mVar 11)) (mVar 16)) mNil))) [16]
      [some (.int sz), some s.d, some (.tup (ws.map D.int)), some (.int (k : Int)), some (.int it), some (.str s.z), some (.tup s.c), some (.tup (s.i.map D.str)), some (.tup (s.o.map D.str)), some (.tup (s.a.map D.str)), some (.tup s.b), some (.loc L.p), some (.tup (r.bk.map fun p => .int p.2)), none, none, none, none] U
      = .ok (.loc U.length) (U ++ [.lst ((touch r s.a).map fun p => .tup [.str p.1, oD p.2])]) := by
    have htl : (touch r s.a).map (fun p => D.tup [.str p.1, oD p.2]) = ((s.a.map D.str).filter fun d => (r.al.lookup (strOf d)).isSome).map fun d => D.tup [d, oD ((r.al.lookup (strOf d)).getD none)] := by
      unfold touch
      rw [List.map_filterMap, List.filter_map, List.map_map]
      clear m2' hl e2
      generalize s.a = as
      induction as with
      | nil => rfl
      | cons a as ih =>
        rw [List.filterMap_cons, List.filter_cons]
        have hd : ((fun d => (r.al.lookup (strOf d)).isSome) ∘ D.str) a = (r.al.lookup a).isSome := rfl
        rw [hd]
        cases e : r.al.lookup a with
        | none =>
          simp only [Option.map_none, Option.isSome_none, Bool.false_eq_true, if_false]
          exact ih
        | some v =>
          simp only [Option.map_some, Option.isSome_some, if_true, List.map_cons]
          rw [← ih]
          show _ :: _ = D.tup [.str a, oD ((r.al.lookup a).getD none)] :: _
          rw [e]
          rfl
    rw [htl]
    refine mLc_fm (S0 := U) (src := .items (s.a.map D.str)) (s.a.map D.str) _ _ (by walk_at "ev") rfl (fun _ _ => rfl) (fun d hd l' => ?_) (le_line (by rw [List.length_map]; have := hs.al.2; omega))
    obtain ⟨a, _, rfl⟩ := List.mem_map.mp hd
    have fA' : fldD [tx "Run"] (tx "alarm_book") (.loc L.p) (U ++ l') = .ok (.loc L.ab) (U ++ l') := by
      rw [hU, List.append_assoc]
      exact fA _
    have ab' : (U ++ l')[L.ab]? = some (.dct (alD r.al)) := by
      rw [hU, List.append_assoc]
      exact at_old hS'.ab
    have i1 := inDA_d (U ++ l') (k := .str a) (key := Sum.inr a) false ab' rfl
    rw [alD_val] at i1
    simp only [if_neg Bool.false_ne_true] at i1
    have i2 : ((r.al.lookup a).map oD).isSome = (r.al.lookup a).isSome := by cases r.al.lookup a <;> rfl
    refine ⟨_, rfl, ?_, fun hp => ?_⟩
    · repeat (first | walk_at "ev" | simp only [fA', i1, i2])
      rfl
    · have hp : (r.al.lookup a).isSome = true := hp
      obtain ⟨v, hv⟩ := Option.isSome_iff_exists.mp hp
      have g1 : ixA (.loc L.ab) (.str a) (U ++ l') = .ok (oD v) (U ++ l') := ixA_d _ ab' (key := Sum.inr a) rfl (by rw [alD_val, hv]; rfl)
      repeat (first | walk_at "ev" | simp only [fA', g1])
      show _ = Res.ok (D.tup [.str a, oD ((r.al.lookup a).getD none)]) _
      rw [hv]
      rfl
  obtain ⟨V, hV⟩ : ∃ V, V = U ++ [.lst ((touch r s.a).map fun p => .tup [.str p.1, oD p.2])] := ⟨_, rfl⟩
  rw [← hV] at m3
  have t2 : tupleD [.loc U.length] V = .ok (.tup ((touch r s.a).map fun p => .tup [.str p.1, oD p.2])) V := by rw [hV]; exact tuple_l _ (at_end _ _)
  have eV : V = T' ++ [.lst (r.bk.map fun p => .int p.2), .lst ((touch r s.a).map fun p => .tup [.str p.1, oD p.2])] := by rw [hV, hU, List.append_assoc]; rfl
  have fS' : fldD [tx "Run"] (tx "sent_list") (.loc L.p) V = .ok (.loc L.sl) V := by rw [eV]; exact fS _
  have fD' : fldD [tx "Run"] (tx "said_list") (.loc L.p) V = .ok (.loc L.dl) V := by rw [eV]; exact fD _
  have t3 : tupleD [.loc L.sl] V = .ok (.tup (sentD r.sent)) V := tuple_l _ (by rw [eV]; exact at_old hS'.sl)
  have t4 : tupleD [.loc L.dl] V = .ok (.tup (saidD r.said)) V := tuple_l _ (by rw [eV]; exact at_old hS'.dl)
  have ev2 : ∃ l', V = S ++ l' := ⟨_, by rw [eV, hl, List.append_assoc]⟩
  obtain ⟨l', hl'⟩ := ev2
  have hnl : ∀ n, ltD' n (resD r s.a) = true := fun n => by
    unfold resD
    have h1 : ∀ l : Bk, ltDs n (l.map fun p => D.int p.2) = true := fun l => by
      induction l with
      | nil => rfl
      | cons _ _ ih => exact ih
    have h2 : ∀ l : List (Str × Option Int), ltDs n (l.map fun p => D.tup [.str p.1, oD p.2]) = true := fun l => by
      induction l with
      | nil => rfl
      | cons p _ ih =>
        obtain ⟨a, v⟩ := p
        cases v <;> exact ih
    show (ltDs n _ && (ltDs n _ && (ltDs n _ && (ltDs n _ && true)))) = true
    rw [h1, ltDs_sent, h2, ltDs_said]
    rfl
  refine gq_new (l := l') ?_ (hnl _)
  rw [← hl']
  have hgT : ∀ kk r S, gT kk s.d r S = kk [.str s.z, .tup s.c, .tup (s.i.map D.str), .tup (s.o.map D.str), .tup (s.a.map D.str), .tup s.b] r S := fun _ _ _ => rfl
  unfold F_run_station
  repeat (first | walk_at "ev" | simp only [hgT, mB, l1, ← hS1, q1, eL, mA0, xb, e2, m2', t1, m3, t2, fS', fD', t3, t4])
  rfl
end Lw
namespace Lw
open PySem PySem.Spec PyProof.Rows L2 Fa
local macro_rules | `(tactic| walk_at "ev") => `(tactic| simp only [bK_ok, bK_err, bK_bad, bnd_ap, ret_ap, fail_ap, mVar_ap, vK_some, mC_ap, m1_ap, m2_ap, k2_ap, mNil_ap, mCons_ap, kCons_ap, kCon_ap, mA_ap, mIf_ap, kIf_t, kIf_f, tOf_ap, isBl_ap, tNt_ap, kNt_ap, tAn_ap, kAn_t, kAn_f, tOr_ap, kOr_t, kOr_f, mNot_ap, kNot_ap, mAnd_ap, kAnd_t, kAnd_f, mOr_ap, kOrV_t, kOrV_f,
  sSeq_ap, sK_nx, sK_rt, sK_bk, sK_ct, sK_ex, sK_bad, oK_ok, oK_err, oK_bad, kNx_ap, kRt_ap, sEx_ap, sRet_ap, sRetN_ap, sNx_ap, sBad_ap, sIf_ap, kIfS_t, kIfS_f, gN_ap, gT_ap, gT_tt, gTc_ap, gT0_ap, sAs_ap, kAs_ap, kAs2_ok, sPar_ap, kPar_ap, gSubD_ap, kSub1_ap, kSub2_ap, kSub3_ap, fK_nx, fK_rt, fK_ex, mLM_ap, mRng1_ap, mRng2_ap, mSrc_ap, src_t, src_r, src_s, src_k,
  mChain_ap, kCh1_ap, kCh2_ap, kCh3_t, kCh3_f, mSl_ap, kSl1_ap, kSl2_ap, mSlT_ap, kTl1_ap, kTl2_ap, mP0_ap, mP_ap, intO_ap, sl_t, dfl_ap, mTM_ap, kTM_k, kTM_t, mMeth_ap, kMe1_ap, kMe2_ap, kMe3_ap, gFld_ap, kF1_ap, gSubA_ap, kSA1_ap, kSA2_ap, sPar3_ap, kPar3_ap, mkD_ap, mkR_ok, dct0D_ap, mDisp_ap, mPairs_nil, mPairs_cons, kPr1_ap, kPr2_ap, kPr3_ap, tuple_t, list_t, mZip_ap, zip_tt,
  wipeE, nc0, nc1, nc2, nc3, nc4, nc5, nc6, nc7, nc8, nc9, nc10, nc11, nc12, nc13, nc14, nc15, Int.reduceEq, Int.reduceLE, Int.reduceLT, Int.reduceSub, Int.reduceAdd,
  fnM_ap, tupD_ap, lstD_ap, le_line, Nat.reduceLeDiff, eq_self,
  add_ii, sub_ii, neg_i, lt_ii, le_ii, gt_ii, ge_ii, isN_n, isN_i, isN_t, isN_s, isN_b, isN_l, abs_i, max_ii, min_ii, int_i, int_b, len_t, len_r, eq_ii, eq_bb, eq_ss,
  List.map_cons, List.map_nil, List.cons_append, List.nil_append, List.append_nil, List.replicate_succ, List.replicate_zero, List.length_cons, List.length_nil, Nat.reduceSub, Nat.reduceAdd, Nat.sub_self, Nat.zero_add,
  List.getElem?_cons_succ, List.getElem?_cons_zero, List.set_cons_succ, List.set_cons_zero, Bool.not_true, Bool.not_false, decide_true, decide_false, if_true, if_false, reduceIte, Bool.false_eq_true])
def worthsP (many : Nat) (sz : Int) : D → Bool
  | .tup ds => decide (ds.length = many) && ds.all (numP 0 (some (sz - 1)))
  | _ => false
theorem are_worths_q {S : Sto} {v : D} (h : okD S v = true) (many : Nat) (sz : Int) : gq F_are_worths [v, .int (many : Int), .int sz] S = .ok (.bl (worthsP many sz v)) S := by
  have h2 := isi_tup h
  cases v with
  | tup ds =>
    simp only [isTup] at h2
    obtain ⟨hl, hd⟩ := okD_tup h
    have en : decide (((ds.length : Nat) : Int) = (many : Int)) = decide (ds.length = many) := by
      by_cases e : ds.length = many
      · rw [decide_eq_true e, decide_eq_true (by omega)]
      · rw [decide_eq_false e, decide_eq_false (by omega)]
    cases e : decide (ds.length = many) with
    | false =>
      rw [e] at en
      refine gq_new0 ?_ rfl
      unfold F_are_worths
      repeat (first | walk_at "ev" | simp only [h2, en, e, worthsP, Bool.false_and])
    | true =>
      rw [e] at en
      refine gq_new (l := [.lst (ds.map fun d => .bl (numP 0 (some (sz - 1)) d))]) ?_ rfl
      unfold F_are_worths
      repeat (first | walk_at "ev" | simp only [h2, en])
      rw [mLc_map (S0 := S) (src := .items ds) ds (fun d => .bl (numP 0 (some (sz - 1)) d)) (by walk_at "ev") rfl (fun _ _ => rfl) (fun d hd' l => by
        refine ⟨_, rfl, ?_⟩
        have := is_number_i (okD_app (l := l) (hd d hd')) 0 (sz - 1)
        repeat (first | walk_at "ev" | simp only [this])) (le_line hl)]
      repeat (first | walk_at "ev" | rw [all_at (numP 0 (some (sz - 1))) ds (at_end _ _)])
      simp only [worthsP, e, Bool.true_and]
  | _ =>
    simp only [isTup] at h2
    refine gq_new0 ?_ rfl
    unfold F_are_worths
    repeat (first | walk_at "ev" | simp only [h2, worthsP])
theorem strsOf_map : ∀ ns : List Str, strsOf (ns.map D.str) = some ns
  | [] => rfl
  | n :: ns => by
    show (strsOf (ns.map D.str)).map (n :: ·) = _
    rw [strsOf_map ns]
    rfl
theorem seek_mem {z : Str} : ∀ {ns : List Str}, z ∈ ns → ∃ k, seek z ns = some k ∧ k < ns.length
  | y :: ys, h => by
    unfold seek
    by_cases e : y = z
    · rw [if_pos e]
      exact ⟨0, rfl, by simp⟩
    · rw [if_neg e]
      rcases List.mem_cons.mp h with h | h
      · exact absurd h.symm e
      · obtain ⟨k, h1, h2⟩ := seek_mem h
        exact ⟨k + 1, by rw [h1]; rfl, by simpa using h2⟩
theorem name_len {z : Str} (h : nameS z = true) : z.length ≤ 1000 := by
  unfold nameS at h
  simp only [Bool.and_eq_true, decide_eq_true_eq] at h
  omega
theorem okD_str {z : Str} (h : nameS z = true) (S : Sto) : okD S (.str z) = true := by
  simp only [okD, decide_eq_true_eq]
  exact name_len h
theorem ints_ok (S : Sto) {ws : List Int} (h : ws.length ≤ 1000) : okD S (.tup (ws.map D.int)) = true := okD_of (by rw [List.length_map]; exact h) fun d hd => by
  obtain ⟨w, _, rfl⟩ := List.mem_map.mp hd
  rfl
theorem handled_q {S : Sto} {m : Mdl} {s : Stn} {nm h : Str} {ws : List Int} {it : Int} {k : Nat} {b : D} (hm : MdlOk m) (ho : okD [] m.d = true) (hs : atN m.ss (.str nm) = some s) (hw : ws.length = s.c.length) (hws : ∀ w ∈ ws, 0 ≤ w ∧ w < m.sz)
    (hk : seek h (s.a ++ s.i) = some k) (hb : s.b[k]? = some b) (hit : if h ∈ s.a then it = 0 else 0 ≤ it ∧ it < m.sz) :
    gq F_handled [m.d, .str nm, .tup (ws.map D.int), .str h, .int it] S = .ok (resD (resS m.sz it s ws b) s.a) S := by
  obtain ⟨z, e, hz, hmem⟩ := atN_str hs
  cases e
  have hok := hm.st s hmem
  have onm : okD S (.str nm) = true := okD_str (by rw [← hz]; exact hok.nm) S
  have hsz : 2 ≤ m.sz ∧ m.sz ≤ 6 := ⟨hm.lo, hm.hi⟩
  have hcl := cells_len hok.cl
  have q1 := checked_station_q (okD_nil ho S) hm onm hs
  have x0 : ∀ S, ixD m.d (.int 0) S = .ok (.int m.sz) S := fun S => ix_t S rfl
  have y1 : ∀ S, ixD s.d (.int 1) S = .ok (.tup s.c) S := fun S => ix_t S rfl
  have y4 : ∀ S, ixD s.d (.int 4) S = .ok (.tup (s.a.map D.str)) S := fun S => ix_t S rfl
  have y2 : ∀ S, ixD s.d (.int 2) S = .ok (.tup (s.i.map D.str)) S := fun S => ix_t S rfl
  have q2 := are_worths_q (ints_ok S (ws := ws) (by omega)) s.c.length m.sz
  have hwp : worthsP s.c.length m.sz (.tup (ws.map D.int)) = true := by
    simp only [worthsP, List.length_map, Bool.and_eq_true, decide_eq_true_eq]
    refine ⟨hw, ?_⟩
    rw [List.all_map, List.all_eq_true]
    intro w hw'
    have := hws w hw'
    show (decide (0 ≤ w) && decide (w ≤ m.sz - 1)) = true
    rw [decide_eq_true this.1, decide_eq_true (by omega)]
    rfl
  rw [hwp] at q2
  have hal := hok.al.2
  have hil := hok.il.2
  have a1 := add_tt S (s.a.map D.str) (s.i.map D.str) (le_line (by rw [List.length_map, List.length_map]; omega))
  rw [← List.map_append] at a1
  have hin : h ∈ s.a ++ s.i := by
    obtain ⟨e1, _⟩ := seek_of hk
    exact List.mem_of_getElem? e1
  have hnm : nameS h = true := by
    rcases List.mem_append.mp hin with hh | hh
    · exact List.all_eq_true.mp hok.al.1 h hh
    · exact List.all_eq_true.mp hok.il.1 h hh
  have i0 := isi_str (okD_str hnm S)
  simp only [isStr] at i0
  have i1 := in_strs true h (s.a ++ s.i) S
  rw [if_pos rfl, decide_eq_true hin] at i1
  have i2 := in_strs false h s.a S
  rw [if_neg (by decide)] at i2
  have ix := idx_t S (ds := (s.a ++ s.i).map D.str) (z := h) (j := k) (by rw [strsOf_map]; exact hk)
  have it2 : 0 ≤ it ∧ it < m.sz := by
    split at hit
    · omega
    · exact hit
  have q3 := run_station_q (S := S) (it := it) hok hsz ((okD_tup ((okD_tup ho).2 (.tup (m.ss.map Stn.d)) (by simp))).2 s.d (List.mem_map_of_mem hmem)) hw hws it2 hb
  have hnl : ltD' S.length (resD (resS m.sz it s ws b) s.a) = true := by
    exact resD_lt _ _ _
  refine gq_new0 ?_ hnl
  by_cases ha : h ∈ s.a
  · rw [if_pos ha] at hit
    rw [decide_eq_true ha] at i2
    have q4 := is_number_i (S := S) (v := .int it) rfl 0 0
    rw [show numP 0 (some 0) (.int it) = true by rw [hit]; rfl] at q4
    unfold F_handled
    repeat (first | walk_at "ev" | simp only [q1, x0, y1, q2, y4, y2, a1, i0, i1, i2, q4, ix, q3])
  · rw [if_neg ha] at hit
    rw [decide_eq_false ha] at i2
    have q4 := is_number_i (S := S) (v := .int it) rfl 0 (m.sz - 1)
    rw [show numP 0 (some (m.sz - 1)) (.int it) = true by
      show (decide (0 ≤ it) && decide (it ≤ m.sz - 1)) = true
      rw [decide_eq_true hit.1, decide_eq_true (by omega)]
      rfl] at q4
    unfold F_handled
    repeat (first | walk_at "ev" | simp only [q1, x0, y1, q2, y4, y2, a1, i0, i1, i2, q4, ix, q3])
where
  resD_lt (n : Nat) (r : RS) (als : List Str) : ltD' n (resD r als) = true := by
    unfold resD
    have h1 : ∀ l : Bk, ltDs n (l.map fun p => D.int p.2) = true := fun l => by
      induction l with
      | nil => rfl
      | cons _ _ ih => exact ih
    have h2 : ∀ l : List (Str × Option Int), ltDs n (l.map fun p => D.tup [.str p.1, oD p.2]) = true := fun l => by
      induction l with
      | nil => rfl
      | cons p _ ih =>
        obtain ⟨a, v⟩ := p
        cases v <;> exact ih
    show (ltDs n _ && (ltDs n _ && (ltDs n _ && (ltDs n _ && true)))) = true
    rw [h1, ltDs_sent, h2, ltDs_said]
    rfl
end Lw
namespace Lw
open PySem PySem.Spec PyProof.Rows L2 Fa
local macro_rules | `(tactic| walk_at "ev") => `(tactic| simp only [bK_ok, bK_err, bK_bad, bnd_ap, ret_ap, fail_ap, mVar_ap, vK_some, mC_ap, m1_ap, m2_ap, k2_ap, mNil_ap, mCons_ap, kCons_ap, kCon_ap, mA_ap, mIf_ap, kIf_t, kIf_f, tOf_ap, isBl_ap, tNt_ap, kNt_ap, tAn_ap, kAn_t, kAn_f, tOr_ap, kOr_t, kOr_f, mNot_ap, kNot_ap, mAnd_ap, kAnd_t, kAnd_f, mOr_ap, kOrV_t, kOrV_f,
  sSeq_ap, sK_nx, sK_rt, sK_bk, sK_ct, sK_ex, sK_bad, oK_ok, oK_err, oK_bad, kNx_ap, kRt_ap, sEx_ap, sRet_ap, sRetN_ap, sNx_ap, sBad_ap, sIf_ap, kIfS_t, kIfS_f, gN_ap, gT_ap, gT_tt, gTc_ap, gT0_ap, sAs_ap, kAs_ap, kAs2_ok, sPar_ap, kPar_ap, gSubD_ap, kSub1_ap, kSub2_ap, kSub3_ap, fK_nx, fK_rt, fK_ex, mLM_ap, mRng1_ap, mRng2_ap, mSrc_ap, src_t, src_r, src_s, src_k,
  mChain_ap, kCh1_ap, kCh2_ap, kCh3_t, kCh3_f, mSl_ap, kSl1_ap, kSl2_ap, mSlT_ap, kTl1_ap, kTl2_ap, mP0_ap, mP_ap, intO_ap, sl_t, dfl_ap, mTM_ap, kTM_k, kTM_t, mMeth_ap, kMe1_ap, kMe2_ap, kMe3_ap, gFld_ap, kF1_ap, gSubA_ap, kSA1_ap, kSA2_ap, sPar3_ap, kPar3_ap, mkD_ap, mkR_ok, dct0D_ap, mDisp_ap, mPairs_nil, mPairs_cons, kPr1_ap, kPr2_ap, kPr3_ap, tuple_t, list_t, mZip_ap, zip_tt,
  wipeE, nc0, nc1, nc2, nc3, nc4, nc5, nc6, nc7, nc8, nc9, nc10, nc11, nc12, nc13, nc14, nc15, Int.reduceEq, Int.reduceLE, Int.reduceLT, Int.reduceSub, Int.reduceAdd,
  fnM_ap, tupD_ap, lstD_ap, le_line, Nat.reduceLeDiff, eq_self,
  add_ii, sub_ii, neg_i, lt_ii, le_ii, gt_ii, ge_ii, isN_n, isN_i, isN_t, isN_s, isN_b, isN_l, abs_i, max_ii, min_ii, int_i, int_b, len_t, len_r, eq_ii, eq_bb, eq_ss,
  List.map_cons, List.map_nil, List.cons_append, List.nil_append, List.append_nil, List.replicate_succ, List.replicate_zero, List.length_cons, List.length_nil, Nat.reduceSub, Nat.reduceAdd, Nat.sub_self, Nat.zero_add,
  List.getElem?_cons_succ, List.getElem?_cons_zero, List.set_cons_succ, List.set_cons_zero, Bool.not_true, Bool.not_false, decide_true, decide_false, if_true, if_false, reduceIte, Bool.false_eq_true])
/-! ### drawing -/
def Pot (p : Nat) (S : Sto) (c : Nat) : Prop := ∃ a b k : Int, S[p]? = some (.lst [.int a, .int b, .int k]) ∧ 0 ≤ a ∧ 0 ≤ b ∧ b < 2305843009213693921 ∧ 0 ≤ k ∧ k ≤ (c : Int)
def Grw (p : Nat) (S S' : Sto) : Prop := S.length ≤ S'.length ∧ ∀ i, i ≠ p → i < S.length → S'[i]? = S[i]?
theorem Grw.refl (p : Nat) (S : Sto) : Grw p S S := ⟨Nat.le_refl _, fun _ _ _ => rfl⟩
theorem Grw.trans {p : Nat} {S S1 S2 : Sto} (a : Grw p S S1) (b : Grw p S1 S2) : Grw p S S2 := ⟨Nat.le_trans a.1 b.1, fun i h1 h2 => (b.2 i h1 (Nat.lt_of_lt_of_le h2 a.1)).trans (a.2 i h1 h2)⟩
theorem Grw.app (p : Nat) (S l : Sto) : Grw p S (S ++ l) := ⟨by simp, fun i _ h => List.getElem?_append_left h⟩
theorem Grw.set (p : Nat) (S : Sto) (o : MO) : Grw p S (S.set p o) := ⟨by simp, fun i h _ => List.getElem?_set_ne (Ne.symm h)⟩
theorem Grw.at {p i : Nat} {S S' : Sto} {o : MO} (g : Grw p S S') (h : i ≠ p) (e : S[i]? = some o) : S'[i]? = some o := (g.2 i h (List.getElem?_eq_some_iff.mp e).1).trans e
theorem Pot.mono {p : Nat} {S : Sto} {c c' : Nat} (h : Pot p S c) (hc : c ≤ c') : Pot p S c' := by
  obtain ⟨a, b, k, e, h1, h2, h3, h4, h5⟩ := h
  exact ⟨a, b, k, e, h1, h2, h3, h4, by omega⟩
theorem Pot.app {p : Nat} {S : Sto} {c : Nat} (h : Pot p S c) (l : Sto) : Pot p (S ++ l) c := by
  obtain ⟨a, b, k, e, r⟩ := h
  exact ⟨a, b, k, at_old e, r⟩
theorem Pot.lt {p : Nat} {S : Sto} {c : Nat} (h : Pot p S c) : p < S.length := by
  obtain ⟨a, b, k, e, r⟩ := h
  exact (List.getElem?_eq_some_iff.mp e).1
theorem Pot.off {p n : Nat} {S : Sto} {c : Nat} {o : MO} (h : Pot p S c) (hn : n ≠ p) : Pot p (S.set n o) c := by
  obtain ⟨a, b, k, e, r⟩ := h
  exact ⟨a, b, k, by rw [List.getElem?_set_ne hn]; exact e, r⟩
theorem mulC_l {i j : Int} (h1 : -18446744073709551616 < i) (h2 : i < 18446744073709551616) : mulC i j = true := by
  unfold mulC
  rw [decide_eq_true (show -(2 ^ 64) < i by omega), decide_eq_true (show i < 2 ^ 64 by omega)]
  rfl
theorem mulC_r {i j : Int} (h1 : -18446744073709551616 < j) (h2 : j < 18446744073709551616) : mulC i j = true := by
  unfold mulC
  rw [decide_eq_true (show -(2 ^ 64) < j by omega), decide_eq_true (show j < 2 ^ 64 by omega)]
  simp
theorem modC_p {i j : Int} (h : 0 < j) : modC i j = true := by
  unfold modC
  exact decide_eq_true (by omega)
theorem divC_p {i j : Int} (h : 0 < j) (h2 : j < 1073741824) : divC i j = true := by
  unfold divC
  rw [decide_eq_true (show j ≠ 0 by omega), decide_eq_true (show j.natAbs < 1073741824 by omega)]
  rfl
theorem fmod_r (a : Int) {n : Int} (h : 0 < n) : 0 ≤ a.fmod n ∧ a.fmod n < n := by
  rw [Int.fmod_eq_emod_of_nonneg _ (by omega)]
  exact ⟨Int.emod_nonneg _ (by omega), Int.emod_lt_of_pos _ h⟩
theorem fdiv_r {a n : Int} (ha : 0 ≤ a) (h : 0 < n) : 0 ≤ a.fdiv n := by
  rw [Int.fdiv_eq_ediv_of_nonneg _ (by omega)]
  exact Int.ediv_nonneg ha (by omega)
theorem powC_3 {i : Int} (h1 : -18446744073709551616 < i) (h2 : i < 18446744073709551616) : powC i 3 = true := by
  unfold powC
  have := intBits_le_64 (k := i) (by omega) (by omega)
  rw [decide_eq_true (show (0 : Int) ≤ 3 by decide), decide_eq_true (show (Builtin.Int.intBits i : Int) * 3 ≤ 2 ^ 27 by omega)]
  rfl
abbrev primes : List D := [.int 2147483647, .int 2147483629, .int 2147483587, .int 2147483579, .int 2147483563]
theorem prime_at {j : Int} (h0 : 0 ≤ j) (h5 : j < 5) : ∃ q : Int, atI primes j = some (.int q) ∧ 0 < q ∧ q < 2147483648 := by
  have : j = 0 ∨ j = 1 ∨ j = 2 ∨ j = 3 ∨ j = 4 := by omega
  rcases this with rfl | rfl | rfl | rfl | rfl
  · exact ⟨2147483647, rfl, by decide, by decide⟩
  · exact ⟨2147483629, rfl, by decide, by decide⟩
  · exact ⟨2147483587, rfl, by decide, by decide⟩
  · exact ⟨2147483579, rfl, by decide, by decide⟩
  · exact ⟨2147483563, rfl, by decide, by decide⟩
theorem take_ok {p : Nat} {S : Sto} {c : Nat} {n : Int} (hp : Pot p S c) (hc : c ≤ 1000000) (h0 : 0 < n) (h1 : n < 1073741824) : ∃ v S', F_l_take [.loc p, .int n] S = .ok (.int v) S' ∧ 0 ≤ v ∧ v < n ∧ Pot p S' (c + 1) ∧ Grw p S S' := by
  obtain ⟨a, b, k, e, ha, hb0, hb1, hk0, hk1⟩ := hp
  have hlt := (List.getElem?_eq_some_iff.mp e).1
  have x0 : ixD (.loc p) (.int 0) S = .ok (.int a) S := ix_l S e rfl
  have x2 : ixD (.loc p) (.int 2) S = .ok (.int k) S := ix_l S e rfl
  by_cases h : 0 < a
  · refine ⟨a.fmod n, S.set p (.lst [.int (a.fdiv n), .int b, .int k]), ?_, (fmod_r a h0).1, (fmod_r a h0).2, ⟨a.fdiv n, b, k, ?_, fdiv_r ha h0, hb0, hb1, hk0, by omega⟩, Grw.set _ _ _⟩
    · unfold F_l_take
      have hd := decide_eq_true h
      have m1 : modD (.int a) (.int n) S = .ok (.int (a.fmod n)) S := mod_ii _ _ _ (modC_p h0)
      have m2' : fdivD (.int a) (.int n) S = .ok (.int (a.fdiv n)) S := fdiv_ii _ _ _ (divC_p h0 h1)
      have s1 : setD (.loc p) (.int 0) (.int (a.fdiv n)) S = .ok () (S.set p (.lst [.int (a.fdiv n), .int b, .int k])) := set_l (j := 0) S _ e rfl
      repeat (first | walk_at "ev" | simp only [x0, hd, m1, m2', s1])
    · rw [List.getElem?_set_self hlt]
  · have S1e : (S.set p (.lst [.int a, .int b, .int (k + 1)]))[p]? = some (.lst [.int a, .int b, .int (k + 1)]) := List.getElem?_set_self hlt
    generalize hS1 : S.set p (.lst [.int a, .int b, .int (k + 1)]) = S1 at S1e
    have s1 : setD (.loc p) (.int 2) (.int (k + 1)) S = .ok () S1 := by rw [← hS1]; exact set_l (j := 2) S _ e rfl
    obtain ⟨q, hq, q0, q1⟩ := prime_at (fmod_r (k + 1) (n := 5) (by decide)).1 (fmod_r (k + 1) (n := 5) (by decide)).2
    have S2e : (S1 ++ [.lst primes])[p]? = some (.lst [.int a, .int b, .int (k + 1)]) := at_old S1e
    have S2n : (S1 ++ [.lst primes])[S1.length]? = some (.lst primes) := at_end _ _
    generalize hS2 : S1 ++ [.lst primes] = S2 at S2e S2n
    have y2 : ixD (.loc p) (.int 2) S2 = .ok (.int (k + 1)) S2 := ix_l S2 S2e rfl
    have y1 : ixD (.loc p) (.int 1) S2 = .ok (.int b) S2 := ix_l S2 S2e rfl
    have yq : ixD (.loc S1.length) (.int ((k + 1).fmod 5)) S2 = .ok (.int q) S2 := ix_l S2 S2n hq
    have kk0 : 0 ≤ (k + 1) * (k + 1) := Int.mul_nonneg (by omega) (by omega)
    have kk1 : (k + 1) * (k + 1) ≤ 1000001 * 1000001 := Int.mul_le_mul (by omega) (by omega) (by omega) (by omega)
    have ass : 99989 * (k + 1) * (k + 1) = 99989 * ((k + 1) * (k + 1)) := Int.mul_assoc _ _ _
    generalize hB : b + 99989 * (k + 1) * (k + 1) + 61 = B
    have B0 : -18446744073709551616 < B := by rw [← hB, ass]; omega
    have B1 : B < 18446744073709551616 := by rw [← hB, ass]; omega
    obtain ⟨m0, m1⟩ := fmod_r (B ^ 3) q0
    generalize hm : (B ^ 3).fmod q = m at m0 m1
    generalize hm2 : (m * (m.fmod 10009 + 91 * (k + 1))).fmod 2305843009213693907 = m2
    obtain ⟨v0, v1⟩ := fmod_r (m2.fdiv 107) h0
    refine ⟨_, S2, ?_, v0, v1, ⟨a, b, k + 1, S2e, ha, hb0, hb1, by omega, by omega⟩, ?_⟩
    · unfold F_l_take
      have hd := decide_eq_false h
      have z0 : modD (.int (k + 1)) (.int 5) S2 = .ok (.int ((k + 1).fmod 5)) S2 := mod_ii _ _ _ (modC_p (by decide))
      have z1 : mulB (.int 99989) (.int (k + 1)) S2 = .ok (.int (99989 * (k + 1))) S2 := mulB_ii _ _ _ (mulC_l (by decide) (by decide))
      have z2 : mulB (.int (99989 * (k + 1))) (.int (k + 1)) S2 = .ok (.int (99989 * (k + 1) * (k + 1))) S2 := mulB_ii _ _ _ (mulC_r (by omega) (by omega))
      have z3 : powD (.int B) (.int 3) S2 = .ok (.int (B ^ 3)) S2 := pow_ii _ _ _ (powC_3 B0 B1)
      have z4 : modD (.int (B ^ 3)) (.int q) S2 = .ok (.int m) S2 := by rw [← hm]; exact mod_ii _ _ _ (modC_p q0)
      have z5 : modD (.int m) (.int 10009) S2 = .ok (.int (m.fmod 10009)) S2 := mod_ii _ _ _ (modC_p (by decide))
      have z6 : mulB (.int 91) (.int (k + 1)) S2 = .ok (.int (91 * (k + 1))) S2 := mulB_ii _ _ _ (mulC_l (by decide) (by decide))
      have z7 : mulB (.int m) (.int (m.fmod 10009 + 91 * (k + 1))) S2 = .ok (.int (m * (m.fmod 10009 + 91 * (k + 1)))) S2 := mulB_ii _ _ _ (mulC_l (by omega) (by omega))
      have z8 : modD (.int (m * (m.fmod 10009 + 91 * (k + 1)))) (.int 2305843009213693907) S2 = .ok (.int m2) S2 := by rw [← hm2]; exact mod_ii _ _ _ (modC_p (by decide))
      have z9 : fdivD (.int m2) (.int 107) S2 = .ok (.int (m2.fdiv 107)) S2 := fdiv_ii _ _ _ (divC_p (by decide) (by decide))
      have za : modD (.int (m2.fdiv 107)) (.int n) S2 = .ok (.int ((m2.fdiv 107).fmod n)) S2 := mod_ii _ _ _ (modC_p h0)
      repeat (first | walk_at "ev" | simp only [x0, hd, x2, s1, hS2, y2, z0, yq, y1, z1, z2, hB, z3, z4, z5, z6, z7, z8, z9, za])
    · rw [← hS2, ← hS1]
      exact (Grw.set p S _).trans (Grw.app p _ _)
theorem atI_of {α : Type} {l : List α} {v : Int} (h0 : 0 ≤ v) (h1 : v < l.length) : ∃ d, atI l v = some d ∧ d ∈ l := by
  have hl : v.toNat < l.length := by omega
  refine ⟨l[v.toNat], ?_, List.getElem_mem hl⟩
  have := atI_nat (List.getElem?_eq_getElem hl)
  rwa [Int.toNat_of_nonneg h0] at this
/-! OF -/
/-! FO -/
theorem powC_a : powC 10 60 = true := by decide +kernel
theorem powC_c : powC 10 18 = true := by decide +kernel
theorem powC_b : powC (10 ^ (60 : Int).toNat) 5 = true := by decide +kernel
theorem P_pos : 0 < ((10 : Int) ^ (60 : Int).toNat) ^ (5 : Int).toNat := Int.pow_pos (Int.pow_pos (by decide))
theorem cell_ok (ns : List Int) (k : Nat) (S : Sto) : ∃ x : Int, mIf (tOf (m2 ltD (mVar 1) (mA lenD (mCons (mVar 0) mNil)))) (m2 ixD (mVar 0) (mVar 1)) (m2 addD (m2 mulB (mC (.int 43)) (mVar 1)) (mC (.int 19))) [some (.rls (ns.map D.int)), some (.int k), none, none] S = .ok (.int x) S := by
  by_cases h : (k : Int) < (ns.length : Int)
  · have hl : k < ns.length := by omega
    have hd := decide_eq_true h
    refine ⟨ns[k], ?_⟩
    have x1 : ixD (.rls (ns.map D.int)) (.int (k : Int)) S = .ok (.int ns[k]) S := ix_r S (atI_nat (by rw [List.getElem?_map, List.getElem?_eq_getElem hl]; rfl))
    repeat (first | walk_at "ev" | simp only [List.length_map, hd, x1])
  · have hd := decide_eq_false h
    refine ⟨43 * k + 19, ?_⟩
    have x1 : mulB (.int 43) (.int (k : Int)) S = .ok (.int (43 * k)) S := mulB_ii _ _ _ (mulC_l (by decide) (by decide))
    repeat (first | walk_at "ev" | simp only [List.length_map, hd, x1])
theorem pot_run {ns : List Int} {k : Nat} (hk : k < 3) {S : Sto} {x P T U : Int} (hx : mIf (tOf (m2 ltD (mVar 1) (mA lenD (mCons (mVar 0) mNil)))) (m2 ixD (mVar 0) (mVar 1)) (m2 addD (m2 mulB (mC (.int 43)) (mVar 1)) (mC (.int 19))) [some (.rls (ns.map D.int)), some (.int k), none, none] S = .ok (.int x) S)
    (P0 : 0 < P) (pw0 : powD (.int 10) (.int 60) S = .ok (.int T) S) (pw1 : powD (.int T) (.int 5) S = .ok (.int P) S) (pw2 : powD (.int 10) (.int 18) S = .ok (.int U) S) :
    ∃ a b : Int, F_l_pot [.rls (ns.map D.int), .int k] S = .ok (.loc S.length) (S ++ [.lst [.int a, .int b, .int 0]]) ∧ 0 ≤ a ∧ 0 ≤ b ∧ b < 2305843009213693921 := by
  have hA : 0 ≤ (if x < 0 then -x else x) := by
    split <;> omega
  generalize hy : (if x < 0 then -x else x) = y at hA
  have md : modD (.int y) (.int P) S = .ok (.int (y.fmod P)) S := mod_ii _ _ _ (modC_p P0)
  obtain ⟨f0, _⟩ := fmod_r y P0
  have bt : ∃ t : Int, (t = 0 ∨ t = 1) ∧ (if decide (U ≤ y) = true then (1 : Int) else 0) = t := by
    by_cases h : U ≤ y
    · exact ⟨1, .inr rfl, by rw [decide_eq_true h]; rfl⟩
    · exact ⟨0, .inl rfl, by rw [decide_eq_false h]; rfl⟩
  obtain ⟨t, ht, ht2⟩ := bt
  have ml : mulB (.int (y.fmod P)) (.int t) S = .ok (.int (y.fmod P * t)) S := mulB_ii _ _ _ (mulC_r (by omega) (by omega))
  have n1 : modD (.int x) (.int 2305843009213693951) S = .ok (.int (x.fmod 2305843009213693951)) S := mod_ii _ _ _ (modC_p (by omega))
  have n2 : mulB (.int (x.fmod 2305843009213693951)) (.int 70663) S = .ok (.int (x.fmod 2305843009213693951 * 70663)) S := mulB_ii _ _ _ (mulC_r (by omega) (by omega))
  have n3 : mulB (.int 6421) (.int (k : Int)) S = .ok (.int (6421 * k)) S := mulB_ii _ _ _ (mulC_l (by omega) (by omega))
  have n4 : mulB (.int (6421 * k)) (.int (k : Int)) S = .ok (.int (6421 * k * k)) S := mulB_ii _ _ _ (mulC_r (by omega) (by omega))
  generalize hz : x.fmod 2305843009213693951 * 70663 + 6421 * k * k + 83 = z
  have n5 : modD (.int z) (.int 2305843009213693921) S = .ok (.int (z.fmod 2305843009213693921)) S := mod_ii _ _ _ (modC_p (by omega))
  obtain ⟨g0, g1⟩ := fmod_r z (n := 2305843009213693921) (by omega)
  refine ⟨y.fmod P * t, z.fmod 2305843009213693921, ?_, ?_, g0, g1⟩
  · unfold F_l_pot
    rw [fnM_ap _ _ _ _ _ (by rfl)]
    rw [sSeq_ap, sAs_ap]
    rw [show ([D.rls (ns.map D.int), D.int k].map some ++ List.replicate (4 - 2) none) = [some (.rls (ns.map D.int)), some (.int k), none, none] from rfl, hx]
    repeat (first | walk_at "ev" | simp only [hy, pw0, pw1, pw2, md, ht2, ml, n1, n2, n3, n4, hz, n5])
  · rcases ht with rfl | rfl
    · rw [Int.mul_zero]; exact Int.le_refl 0
    · rw [Int.mul_one]; exact f0
theorem pot_ok (ns : List Int) (k : Nat) (hk : k < 3) (S : Sto) : ∃ a b : Int, F_l_pot [.rls (ns.map D.int), .int k] S = .ok (.loc S.length) (S ++ [.lst [.int a, .int b, .int 0]]) ∧ 0 ≤ a ∧ 0 ≤ b ∧ b < 2305843009213693921 := by
  obtain ⟨x, hx⟩ := cell_ok ns k S
  exact pot_run hk hx P_pos (pow_ii S 10 60 powC_a) (pow_ii S _ 5 powC_b) (pow_ii S 10 18 powC_c)
def il (x y z : Int) : MO := .lst [.int x, .int y, .int z]
theorem ltO_il {n : Nat} {x y z : Int} : ltO n (il x y z) = true := rfl
theorem take_t {S l : Sto} {n : Nat} (h : S.length = n) : (S ++ l).take n = S := by
  subst h
  simp
/-- what has come of a store by draws: the pot alone is otherwise, new things stand behind -/
theorem grw_form {p : Nat} {S T : Sto} {c : Nat} (hg : Grw p S T) (hp : p < S.length) (hP : Pot p T c) : ∃ x y z, T.take S.length = S.set p (il x y z) ∧ Pot p (S.set p (il x y z)) c := by
  obtain ⟨a, b, k, e, r⟩ := hP
  refine ⟨a, b, k, ?_, a, b, k, List.getElem?_set_self hp, r⟩
  apply List.ext_getElem?
  intro i
  by_cases hi : i < S.length
  · rw [List.getElem?_take_of_lt hi]
    by_cases hip : i = p
    · subst hip
      rw [List.getElem?_set_self hi]
      exact e
    · rw [List.getElem?_set_ne (Ne.symm hip)]
      exact hg.2 i hip hi
  · rw [List.getElem?_eq_none_iff.mpr (by rw [List.length_take]; omega), List.getElem?_eq_none_iff.mpr (by rw [List.length_set]; omega)]
theorem gq_grw {F : List D → M D} {ds : List D} {p : Nat} {S T : Sto} {c : Nat} {d : D} (h : F ds S = .ok d T) (hg : Grw p S T) (hp : p < S.length) (hP : Pot p T c) (hd : ltD' S.length d = true) : ∃ x y z, gq F ds S = .ok d (S.set p (il x y z)) ∧ Pot p (S.set p (il x y z)) c := by
  obtain ⟨x, y, z, e, h2⟩ := grw_form hg hp hP
  refine ⟨x, y, z, ?_, h2⟩
  unfold gq
  rw [h]
  simp only
  have ht : Trim S.length S T := fun i hi => by
    by_cases hip : i = p
    · subst hip
      obtain ⟨a, b, k, e', _⟩ := hP
      exact .inr ⟨_, e', rfl⟩
    · exact .inl (hg.2 i hip hi)
  rw [if_pos ⟨hd, ht⟩, e]
theorem gq_fresh {F : List D → M D} {ds : List D} {S S' : Sto} {d : D} (h : F ds S = .ok d S') (hd : ltD' S.length d = false) : gq F ds S = .ok d S' := by
  unfold gq
  rw [h]
  simp only
  rw [if_neg fun z => by rw [hd] at z; cases z.1]
theorem take_q {p : Nat} {S : Sto} {c : Nat} {n : Int} (hp : Pot p S c) (hc : c ≤ 1000000) (h0 : 0 < n) (h1 : n < 1073741824) :
    ∃ v x y z, gq F_l_take [.loc p, .int n] S = .ok (.int v) (S.set p (il x y z)) ∧ 0 ≤ v ∧ v < n ∧ Pot p (S.set p (il x y z)) (c + 1) := by
  obtain ⟨v, T, e, v0, v1, hP, hg⟩ := take_ok hp hc h0 h1
  obtain ⟨x, y, z, e2, h2⟩ := gq_grw e hg hp.lt hP rfl
  exact ⟨v, x, y, z, e2, v0, v1, h2⟩
theorem pot_q (ns : List Int) (k : Nat) (hk : k < 3) (S : Sto) : ∃ a b : Int, gq F_l_pot [.rls (ns.map D.int), .int k] S = .ok (.loc S.length) (S ++ [il a b 0]) ∧ Pot S.length (S ++ [il a b 0]) 0 := by
  obtain ⟨a, b, e, h0, h1, h2⟩ := pot_ok ns k hk S
  refine ⟨a, b, gq_fresh e (by simp [ltD']), ⟨a, b, 0, by simp [il], h0, h1, h2, by decide, by decide⟩⟩
/-! OF -/
theorem of_q {p q : Nat} {S : Sto} {c : Nat} {ds : List D} (hp : Pot p S c) (hc : c ≤ 1000000) (hq : S[q]? = some (.lst ds)) (hn : q ≠ p) (h0 : 0 < ds.length) (h1 : ds.length ≤ 1000) (hl : ∀ d ∈ ds, ltD' S.length d = true) :
    ∃ d x y z, gq F_l_of [.loc p, .loc q] S = .ok d (S.set p (il x y z)) ∧ d ∈ ds ∧ Pot p (S.set p (il x y z)) (c + 1) := by
  obtain ⟨v, x, y, z, e, v0, v1, hp'⟩ := take_q (n := ds.length) hp hc (by omega) (by omega)
  obtain ⟨d, hd, hm⟩ := atI_of v0 v1
  have hq' : (S.set p (il x y z))[q]? = some (.lst ds) := by
    rw [List.getElem?_set_ne (Ne.symm hn)]
    exact hq
  have hF : F_l_of [.loc p, .loc q] S = .ok d (S.set p (il x y z)) := by
    unfold F_l_of
    have l1 : lenD [.loc q] S = .ok (.int ds.length) S := len_l S hq
    have l2 : ixD (.loc q) (.int v) (S.set p (il x y z)) = .ok d (S.set p (il x y z)) := ix_l _ hq' hd
    repeat (first | walk_at "ev" | simp only [l1, e, l2])
  obtain ⟨x', y', z', e2, h2⟩ := gq_grw hF (Grw.set p S _) hp.lt hp' (hl d hm)
  exact ⟨d, x', y', z', e2, hm, h2⟩
/-! FO -/
theorem seq1 {A B : Fa.Env → Sto → Out} {r r1 : Fa.Env} {S S1 : Sto} {o : Out} (h1 : A r S = .nx r1 S1) (h2 : B r1 S1 = o) : sSeq A B r S = o := by
  rw [sSeq_ap, h1]
  exact h2
/-- a comprehension whose elements draw -/
theorem lc_inv {src : Src} (k : Nat) (it : Nat → D) {g : Tg} {t : Fa.Env → M Bool} {e : Fa.Env → M D} {r : Fa.Env} {n : Nat} (J : Nat → List D → Sto → Prop) (hn : ∀ i acc S, J i acc S → nextD src i S = some (if i < k then some (it i) else none))
    (h : ∀ i acc S, i < k → J i acc S → S[n]? = some (.lst acc) → ∃ r' S' y, g (it i) r S = .ok r' S ∧ t r' S = .ok true S ∧ e r' S = .ok y S' ∧ S'[n]? = some (.lst acc) ∧ J (i + 1) (acc ++ [y]) (S'.set n (.lst (acc ++ [y])))) (hz : k ≤ sizeLine)
    {S : Sto} (h0 : J 0 [] S) (hS : S[n]? = some (.lst [])) : ∃ ds S', lcGo src g t e n r k 0 S = .ok (.loc n) S' ∧ S'[n]? = some (.lst ds) ∧ ds.length = k ∧ J k ds S' := by
  have go : ∀ (j i : Nat) (acc : List D) (S : Sto), i + j = k → acc.length = i → J i acc S → S[n]? = some (.lst acc) → ∃ ds S', lcGo src g t e n r j i S = .ok (.loc n) S' ∧ S'[n]? = some (.lst ds) ∧ ds.length = k ∧ J k ds S' := by
    intro j
    induction j with
    | zero =>
      intro i acc S hi hl hJ hS
      have : i = k := by omega
      subst this
      refine ⟨acc, S, ?_, hS, hl, hJ⟩
      unfold lcGo
      rw [hn i acc S hJ, if_neg (Nat.lt_irrefl _)]
    | succ j ih =>
      intro i acc S hi hl hJ hS
      have hlt : i < k := by omega
      obtain ⟨r', S', y, h1, h2, h3, h4, h5⟩ := h i acc S hlt hJ hS
      unfold lcGo
      rw [hn i acc S hJ, if_pos hlt]
      simp only [h1, h2, h3]
      rw [push_at _ h4 (by omega)]
      refine ih (i + 1) (acc ++ [y]) _ (by omega) (by simp [hl]) h5 ?_
      rw [List.getElem?_set_self (List.getElem?_eq_some_iff.mp h4).1]
  exact go k 0 [] S (by omega) rfl h0 hS
theorem mLc_inv {m : Fa.Env → M Src} {src : Src} (k : Nat) (it : Nat → D) {g : Tg} {e : Fa.Env → M D} {vs : List Nat} {r : Fa.Env} {S S0 : Sto} (J : Nat → List D → Sto → Prop) (hm : m r S = .ok src S0) (ht : turns src S0 = k) (hn : ∀ i acc S, J i acc S → nextD src i S = some (if i < k then some (it i) else none))
    (h : ∀ i acc S, i < k → J i acc S → S[S0.length]? = some (.lst acc) → ∃ r' S' y, g (it i) (wipeE r vs) S = .ok r' S ∧ e r' S = .ok y S' ∧ S'[S0.length]? = some (.lst acc) ∧ J (i + 1) (acc ++ [y]) (S'.set S0.length (.lst (acc ++ [y])))) (hz : k ≤ sizeLine)
    (h0 : J 0 [] (S0 ++ [.lst []])) : ∃ ds S', mLc m g tT e vs r S = .ok (.loc S0.length) S' ∧ S'[S0.length]? = some (.lst ds) ∧ ds.length = k ∧ J k ds S' := by
  unfold mLc
  rw [bnd_ap, hm, bK_ok, ht]
  exact lc_inv k it J hn (fun i acc S hi hJ hS => by
    obtain ⟨r', S', y, h1, h2, h3, h4⟩ := h i acc S hi hJ hS
    exact ⟨r', S', y, h1, rfl, h2, h3, h4⟩) hz h0 (at_end _ _)
/-! LAW -/
theorem law_all {nv : Nat} {body : Fa.Env → Sto → Out} (J : Fa.Env → Prop) (hF : F_law = fnM (nv + 1) 1 (sSeq (sFor (mRng1 (mCons (mA maxD (mCons (mC (.int 1)) (mCons (mA minD (mCons (mC (.int 3)) (mCons (mA lenD (mCons (mVar 0) mNil)) mNil))) mNil))) mNil)) (gN 1) body) (sRet (mC (.bl true)))))
    (ns : List Int) (h0 : J (some (.rls (ns.map D.int)) :: List.replicate nv none)) (hb : ∀ (i : Nat) r S, i < 3 → J r → ∃ r' S', body (r.set 1 (some (.int (i : Int)))) S = .nx r' S' ∧ J r') :
    ∃ S, F_law [.rls (ns.map D.int)] [] = .ok (.bl true) S := by
  obtain ⟨k, hk, hk3⟩ : ∃ k : Nat, (if (if (ns.length : Int) < 3 then (ns.length : Int) else 3) > 1 then (if (ns.length : Int) < 3 then (ns.length : Int) else 3) else 1) = (k : Int) ∧ k ≤ 3 := by
    by_cases h1 : (ns.length : Int) < 3
    · rw [if_pos h1]
      by_cases h2 : (ns.length : Int) > 1
      · exact ⟨ns.length, if_pos h2, by omega⟩
      · exact ⟨1, if_neg h2, by omega⟩
    · rw [if_neg h1]
      exact ⟨3, rfl, by omega⟩
  have hr1 : rngOf1 [.int (k : Int)] [] = .ok (.rng 0 k) [] := rng1_i (by omega) (by omega) []
  have hv : mVar 0 (some (.rls (ns.map D.int)) :: List.replicate nv none) [] = .ok (.rls (ns.map D.int)) [] := rfl
  have hm : mRng1 (mCons (mA maxD (mCons (mC (.int 1)) (mCons (mA minD (mCons (mC (.int 3)) (mCons (mA lenD (mCons (mVar 0) mNil)) mNil))) mNil))) mNil) (some (.rls (ns.map D.int)) :: List.replicate nv none) [] = .ok (.rng 0 k) [] := by
    repeat (first | walk_at "ev" | simp only [hv, List.length_map, hk, hr1])
  obtain ⟨r', S', hf, hI⟩ := sFor_inv k (fun i => .int (0 + (i : Int))) (g := gN 1) (b := body) (fun i r S => J r) hm rfl (fun i r T _ => next_rng _ _ _ _) (fun i r T hi hI => by
      obtain ⟨r2, T2, e, hJ⟩ := hb i r T (by omega) hI
      refine ⟨_, T, r2, T2, rfl, .inl ?_, hJ⟩
      rw [Int.zero_add]
      exact e) h0
  refine ⟨S', ?_⟩
  rw [hF, fnM_ap _ _ _ _ _ (by rfl)]
  refine (congrArg fK (?_ : _ = Out.rt (.bl true) S')).trans rfl
  exact seq1 hf rfl
/-! WAL -/
end Lw
namespace Lw
open PySem PySem.Spec PyProof.Rows L2 Fa
local macro_rules | `(tactic| walk_at "ev") => `(tactic| simp only [bK_ok, bK_err, bK_bad, bnd_ap, ret_ap, fail_ap, mVar_ap, vK_some, mC_ap, m1_ap, m2_ap, k2_ap, mNil_ap, mCons_ap, kCons_ap, kCon_ap, mA_ap, mIf_ap, kIf_t, kIf_f, tOf_ap, isBl_ap, tNt_ap, kNt_ap, tAn_ap, kAn_t, kAn_f, tOr_ap, kOr_t, kOr_f, mNot_ap, kNot_ap, mAnd_ap, kAnd_t, kAnd_f, mOr_ap, kOrV_t, kOrV_f,
  sSeq_ap, sK_nx, sK_rt, sK_bk, sK_ct, sK_ex, sK_bad, oK_ok, oK_err, oK_bad, kNx_ap, kRt_ap, sEx_ap, sRet_ap, sRetN_ap, sNx_ap, sBad_ap, sIf_ap, kIfS_t, kIfS_f, gN_ap, gT_ap, gT_tt, gTc_ap, gT0_ap, sAs_ap, kAs_ap, kAs2_ok, sPar_ap, kPar_ap, gSubD_ap, kSub1_ap, kSub2_ap, kSub3_ap, fK_nx, fK_rt, fK_ex, mLM_ap, mRng1_ap, mRng2_ap, mSrc_ap, src_t, src_r, src_s, src_k,
  mChain_ap, kCh1_ap, kCh2_ap, kCh3_t, kCh3_f, mSl_ap, kSl1_ap, kSl2_ap, mSlT_ap, kTl1_ap, kTl2_ap, mP0_ap, mP_ap, intO_ap, sl_t, dfl_ap, mTM_ap, kTM_k, kTM_t, mMeth_ap, kMe1_ap, kMe2_ap, kMe3_ap, gFld_ap, kF1_ap, gSubA_ap, kSA1_ap, kSA2_ap, sPar3_ap, kPar3_ap, mkD_ap, mkR_ok, dct0D_ap, mDisp_ap, mPairs_nil, mPairs_cons, kPr1_ap, kPr2_ap, kPr3_ap, tuple_t, list_t, mZip_ap, zip_tt,
  wipeE, nc0, nc1, nc2, nc3, nc4, nc5, nc6, nc7, nc8, nc9, nc10, nc11, nc12, nc13, nc14, nc15, Int.reduceEq, Int.reduceLE, Int.reduceLT, Int.reduceSub, Int.reduceAdd,
  fnM_ap, tupD_ap, lstD_ap, le_line, Nat.reduceLeDiff, eq_self,
  add_ii, sub_ii, neg_i, lt_ii, le_ii, gt_ii, ge_ii, isN_n, isN_i, isN_t, isN_s, isN_b, isN_l, abs_i, max_ii, min_ii, int_i, int_b, len_t, len_r, eq_ii, eq_bb, eq_ss,
  List.map_cons, List.map_nil, List.cons_append, List.nil_append, List.append_nil, List.replicate_succ, List.replicate_zero, List.length_cons, List.length_nil, Nat.reduceSub, Nat.reduceAdd, Nat.sub_self, Nat.zero_add,
  List.getElem?_cons_succ, List.getElem?_cons_zero, List.set_cons_succ, List.set_cons_zero, Bool.not_true, Bool.not_false, decide_true, decide_false, if_true, if_false, reduceIte, Bool.false_eq_true])
/-! ### programs by their statements -/
section
variable {P : Ports} {sz : Int} {pr : Option (D → Bool)}
theorem stmtP_say {e : D} (h : exprP P.cs sz 3 e = true) : stmtP P sz pr (.tup [.str (tx "say"), e]) = true := by
  simp only [stmtP, if_neg (show ¬ tx "say" = tx "drop" by decide +kernel), if_pos]
  exact h
theorem stmtP_drop {z : Str} (h : z ∈ P.als) : stmtP P sz pr (.tup [.str (tx "drop"), .str z]) = true := by
  simp only [stmtP, if_pos]
  exact decide_eq_true h
theorem stmtP_set {z : Str} {e : D} (hz : z ∈ P.cs) (h : exprP P.cs sz 3 e = true) : stmtP P sz pr (.tup [.str (tx "set"), .str z, e]) = true := by
  simp only [stmtP, if_pos, h, Bool.and_true]
  exact decide_eq_true hz
theorem stmtP_send {z : Str} {e : D} (hz : z ∈ P.outs) (h : exprP P.cs sz 3 e = true) : stmtP P sz pr (.tup [.str (tx "send"), .str z, e]) = true := by
  simp only [stmtP, if_neg (show ¬ tx "send" = tx "set" by decide +kernel), if_pos, h, Bool.and_true]
  exact decide_eq_true hz
theorem stmtP_wait {z : Str} {e : D} (hz : z ∈ P.als) (h : exprP P.cs sz 3 e = true) : stmtP P sz pr (.tup [.str (tx "wait"), .str z, e]) = true := by
  simp only [stmtP, if_neg (show ¬ tx "wait" = tx "set" by decide +kernel), if_neg (show ¬ tx "wait" = tx "send" by decide +kernel), if_pos, h, Bool.and_true]
  exact decide_eq_true hz
theorem stmtP_rep {e b : D} {p : D → Bool} (h : exprP P.cs sz 3 e = true) (hb : p b = true) : stmtP P sz (some p) (.tup [.str (tx "repeat"), e, b]) = true := by
  simp only [stmtP, if_neg (show ¬ tx "repeat" = tx "set" by decide +kernel), if_neg (show ¬ tx "repeat" = tx "send" by decide +kernel), if_neg (show ¬ tx "repeat" = tx "wait" by decide +kernel), if_pos, h, hb, Bool.and_true]
theorem stmtP_if {c x y : D} {p : D → Bool} (h : condP P.cs sz c = true) (hx : p x = true) (hy : p y = true) : stmtP P sz (some p) (.tup [.str (tx "if"), c, x, y]) = true := by
  simp only [stmtP, if_pos, h, hx, hy, Bool.and_true]
theorem condP_of {g : Str} {a b : D} (hg : g ∈ tests) (ha : exprP P.cs sz 3 a = true) (hb : exprP P.cs sz 3 b = true) : condP P.cs sz (.tup [.str g, a, b]) = true := by
  simp only [condP, ha, hb, Bool.and_true]
  exact decide_eq_true hg
theorem exprP_int {cs : List Str} {k : Nat} {v : Int} (h0 : 0 ≤ v) (h1 : v < sz) : exprP cs sz k (.int v) = true := by
  have : numP 0 (some (sz - 1)) (.int v) = true := by
    show (decide (0 ≤ v) && decide (v ≤ sz - 1)) = true
    rw [decide_eq_true h0, decide_eq_true (by omega)]
    rfl
  cases k <;> exact this
theorem exprP_name {cs : List Str} {k : Nat} {z : Str} (h : z = tx "it" ∨ z ∈ cs) : exprP cs sz k (.str z) = true := by
  have : (decide (z = tx "it") || decide (z ∈ cs)) = true := by simpa using h
  cases k <;> exact this
theorem exprP_op {cs : List Str} {k : Nat} {g : Str} {a b : D} (hg : g ∈ signs) (ha : exprP cs sz k a = true) (hb : exprP cs sz k b = true) : exprP cs sz (k + 1) (.tup [.str g, a, b]) = true := by
  simp only [exprP, ha, hb, Bool.and_true]
  exact decide_eq_true hg
theorem progP_of {k : Nat} {ds : List D} (hl : ds.length ≤ 6) (h : ∀ d ∈ ds, stmtP P sz (below P sz k) d = true) : progP P sz k (.tup ds) = true := by
  rw [progP_tup, decide_eq_true hl, Bool.true_and]
  exact List.all_eq_true.mpr h
end
end Lw
namespace Lw
open PySem PySem.Spec PyProof.Rows L2 Fa
local macro_rules | `(tactic| walk_at "ev") => `(tactic| simp only [bK_ok, bK_err, bK_bad, bnd_ap, ret_ap, fail_ap, mVar_ap, vK_some, mC_ap, m1_ap, m2_ap, k2_ap, mNil_ap, mCons_ap, kCons_ap, kCon_ap, mA_ap, mIf_ap, kIf_t, kIf_f, tOf_ap, isBl_ap, tNt_ap, kNt_ap, tAn_ap, kAn_t, kAn_f, tOr_ap, kOr_t, kOr_f, mNot_ap, kNot_ap, mAnd_ap, kAnd_t, kAnd_f, mOr_ap, kOrV_t, kOrV_f,
  sSeq_ap, sK_nx, sK_rt, sK_bk, sK_ct, sK_ex, sK_bad, oK_ok, oK_err, oK_bad, kNx_ap, kRt_ap, sEx_ap, sRet_ap, sRetN_ap, sNx_ap, sBad_ap, sIf_ap, kIfS_t, kIfS_f, gN_ap, gT_ap, gT_tt, gTc_ap, gT0_ap, sAs_ap, kAs_ap, kAs2_ok, sPar_ap, kPar_ap, gSubD_ap, kSub1_ap, kSub2_ap, kSub3_ap, fK_nx, fK_rt, fK_ex, mLM_ap, mRng1_ap, mRng2_ap, mSrc_ap, src_t, src_r, src_s, src_k,
  mChain_ap, kCh1_ap, kCh2_ap, kCh3_t, kCh3_f, mSl_ap, kSl1_ap, kSl2_ap, mSlT_ap, kTl1_ap, kTl2_ap, mP0_ap, mP_ap, intO_ap, sl_t, dfl_ap, mTM_ap, kTM_k, kTM_t, mMeth_ap, kMe1_ap, kMe2_ap, kMe3_ap, gFld_ap, kF1_ap, gSubA_ap, kSA1_ap, kSA2_ap, sPar3_ap, kPar3_ap, mkD_ap, mkR_ok, dct0D_ap, mDisp_ap, mPairs_nil, mPairs_cons, kPr1_ap, kPr2_ap, kPr3_ap, tuple_t, list_t, mZip_ap, zip_tt,
  wipeE, nc0, nc1, nc2, nc3, nc4, nc5, nc6, nc7, nc8, nc9, nc10, nc11, nc12, nc13, nc14, nc15, Int.reduceEq, Int.reduceLE, Int.reduceLT, Int.reduceSub, Int.reduceAdd,
  fnM_ap, tupD_ap, lstD_ap, le_line, Nat.reduceLeDiff, eq_self,
  add_ii, sub_ii, neg_i, lt_ii, le_ii, gt_ii, ge_ii, isN_n, isN_i, isN_t, isN_s, isN_b, isN_l, abs_i, max_ii, min_ii, int_i, int_b, len_t, len_r, eq_ii, eq_bb, eq_ss,
  List.map_cons, List.map_nil, List.cons_append, List.nil_append, List.append_nil, List.replicate_succ, List.replicate_zero, List.length_cons, List.length_nil, Nat.reduceSub, Nat.reduceAdd, Nat.sub_self, Nat.zero_add,
  List.getElem?_cons_succ, List.getElem?_cons_zero, List.set_cons_succ, List.set_cons_zero, Bool.not_true, Bool.not_false, decide_true, decide_false, if_true, if_false, reduceIte, Bool.false_eq_true])
/-! ### drawn expressions -/
def c3 : List Str := [tx "m", tx "n", tx "o"]
def names4 : List D := [.str (tx "m"), .str (tx "n"), .str (tx "o"), .str (tx "it")]
def sg3 : List D := [.str (tx "+"), .str (tx "-"), .str (tx "*")]
def dn : Nat → Nat
  | 0 => 2
  | k + 1 => 2 + 2 * dn k
theorem exprP_mono_int {sz : Int} {k : Nat} {v : Int} (h0 : 0 ≤ v) (h1 : v < sz) : exprP c3 sz k (.int v) = true := by
  have : numP 0 (some (sz - 1)) (.int v) = true := by
    show (decide (0 ≤ v) && decide (v ≤ sz - 1)) = true
    rw [decide_eq_true h0, decide_eq_true (by omega)]
    rfl
  cases k <;> exact this
theorem names4_ok {sz : Int} {k : Nat} {d : D} (h : d ∈ names4) : exprP c3 sz k d = true ∧ okD [] d = true := by
  have : ∀ z, z ∈ [tx "m", tx "n", tx "o", tx "it"] → (decide (z = tx "it") || decide (z ∈ c3)) = true ∧ okD [] (.str z) = true := by decide +kernel
  simp only [names4, List.mem_cons, List.not_mem_nil, or_false] at h
  rcases h with rfl | rfl | rfl | rfl
  · have := this (tx "m") (by simp); cases k <;> exact this
  · have := this (tx "n") (by simp); cases k <;> exact this
  · have := this (tx "o") (by simp); cases k <;> exact this
  · have := this (tx "it") (by simp); cases k <;> exact this
def SumOk (sz : Int) (k n : Nat) : Prop := ∀ {S : Sto} {p q c : Nat}, Pot p S c → c + dn k ≤ 100000 → S[q]? = some (.lst names4) → q ≠ p →
  ∃ e x y z, gq (F_l_sum n) [.loc p, .loc q, .int sz, .int (k : Int)] S = .ok e (S.set p (il x y z)) ∧ exprP c3 sz k e = true ∧ okD [] e = true ∧ Pot p (S.set p (il x y z)) (c + dn k)
/-- a name or a number -/
theorem leaf_q {sz : Int} (hsz : 2 ≤ sz ∧ sz ≤ 6) {S : Sto} {p q c : Nat} (hp : Pot p S c) (hc : c ≤ 100000) (hq : S[q]? = some (.lst names4)) (hn : q ≠ p) (k : Nat) (x3 x4 : Option D) :
    ∃ e T, mIf (tOf (m2 gtD (mA (gq F_l_take) (mCons (mVar 0) (mCons (mC (.int 3)) mNil))) (mC (.int 0)))) (mA (gq F_l_of) (mCons (mVar 0) (mCons (mVar 1) mNil))) (mA (gq F_l_take) (mCons (mVar 0) (mCons (mVar 2) mNil))) [some (.loc p), some (.loc q), some (.int sz), x3, x4] S = .ok e T ∧ exprP c3 sz k e = true ∧ okD [] e = true ∧ Pot p T (c + 2) ∧ Grw p S T := by
  obtain ⟨v, a1, a2, a3, e1, v0, v1, p1⟩ := take_q (n := 3) hp (by omega) (by decide) (by decide)
  obtain ⟨S1, hS1⟩ : ∃ S1, S1 = S.set p (il a1 a2 a3) := ⟨_, rfl⟩
  rw [← hS1] at e1 p1
  have g1 : Grw p S S1 := by rw [hS1]; exact Grw.set p S _
  have q1 : S1[q]? = some (.lst names4) := g1.at hn hq
  by_cases h : 0 < v
  · obtain ⟨d, b1, b2, b3, e2, hd, p2⟩ := of_q p1 (by omega) q1 hn (by decide) (by decide) (fun d hd => by
      simp only [names4, List.mem_cons, List.not_mem_nil, or_false] at hd
      rcases hd with rfl | rfl | rfl | rfl <;> rfl)
    have hv := decide_eq_true h
    obtain ⟨h1, h2⟩ := names4_ok (sz := sz) (k := k) hd
    refine ⟨d, _, ?_, h1, h2, p2, g1.trans (Grw.set p S1 _)⟩
    repeat (first | walk_at "ev" | simp only [e1, hv, e2])
  · obtain ⟨w, b1, b2, b3, e2, w0, w1, p2⟩ := take_q (n := sz) p1 (by omega) (by omega) (by omega)
    have hv := decide_eq_false h
    refine ⟨.int w, _, ?_, exprP_mono_int w0 w1, rfl, p2, g1.trans (Grw.set p S1 _)⟩
    repeat (first | walk_at "ev" | simp only [e1, hv, e2])
theorem dn_ge (k : Nat) : 2 ≤ dn k := by
  cases k with
  | zero => decide
  | succ k => show 2 ≤ 2 + 2 * dn k; omega
theorem okD_lt0 {d : D} (h : okD [] d = true) (n : Nat) : ltD' n d = true := by
  have h1 := okD_lt h
  exact ltD_up (Nat.zero_le _) h1
theorem sum_q {sz : Int} (hsz : 2 ≤ sz ∧ sz ≤ 6) : ∀ (k n : Nat), k < n → SumOk sz k n := by
  intro k
  induction k with
  | zero =>
    intro n hn S p q c hp hc hq hne
    obtain ⟨n, rfl⟩ : ∃ m, n = m + 1 := ⟨n - 1, by omega⟩
    have : dn 0 = 2 := rfl
    obtain ⟨e, T, e1, h1, h2, p1, g1⟩ := leaf_q hsz hp (by omega) hq hne 0 (some (.int ((0 : Nat) : Int))) none
    have hF : F_l_sum (n + 1) [.loc p, .loc q, .int sz, .int ((0 : Nat) : Int)] S = .ok e T := by
      rw [F_l_sum]
      simp only [nc0] at e1 ⊢
      rw [fnM_ap _ _ _ _ _ (by rfl), sSeq_ap, sIf_ap]
      rw [show ([D.loc p, D.loc q, D.int sz, D.int 0].map some ++ List.replicate (5 - 4) none) = [some (.loc p), some (.loc q), some (.int sz), some (.int 0), none] from rfl]
      rw [tOr_ap, tOf_ap, m2_ap, mVar_ap]
      simp only [List.getElem?_cons_succ, List.getElem?_cons_zero, vK_some, bK_ok, k2_ap, mC_ap, eq_ii, isBl_ap, decide_true, if_false, Bool.false_eq_true, kOr_t, oK_ok, kIfS_t, sRet_ap, e1, kRt_ap, sK_rt, fK_rt]
    obtain ⟨x, y, z, e2, h3⟩ := gq_grw hF g1 hp.lt p1 (okD_lt0 h2 _)
    exact ⟨e, x, y, z, e2, h1, h2, h3⟩
  | succ k ih =>
    intro n hn S p q c hp hc hq hne
    obtain ⟨n, rfl⟩ : ∃ m, n = m + 1 := ⟨n - 1, by omega⟩
    have hdn : dn (k + 1) = 2 + 2 * dn k := rfl
    have hge := dn_ge k
    have k0 : decide (((k + 1 : Nat) : Int) = 0) = false := decide_eq_false (by omega)
    have k1 : ((k + 1 : Nat) : Int) - 1 = (k : Int) := by omega
    obtain ⟨v, a1, a2, a3, e1, v0, v1, p1⟩ := take_q (n := 4) hp (by omega) (by decide) (by decide)
    obtain ⟨S1, hS1⟩ : ∃ S1, S1 = S.set p (il a1 a2 a3) := ⟨_, rfl⟩
    rw [← hS1] at e1 p1
    have g1 : Grw p S S1 := by rw [hS1]; exact Grw.set p S _
    have q1 : S1[q]? = some (.lst names4) := g1.at hne hq
    by_cases h : v = 0
    · have hv := decide_eq_true h
      obtain ⟨e, T, e2, h1, h2, p2, g2⟩ := leaf_q hsz p1 (by omega) q1 hne (k + 1) (some (.int ((k + 1 : Nat) : Int))) none
      have hF : F_l_sum (n + 1) [.loc p, .loc q, .int sz, .int ((k + 1 : Nat) : Int)] S = .ok e T := by
        rw [F_l_sum]
        rw [fnM_ap _ _ _ _ _ (by rfl), sSeq_ap, sIf_ap]
        rw [show ([D.loc p, D.loc q, D.int sz, D.int ((k + 1 : Nat) : Int)].map some ++ List.replicate (5 - 4) none) = [some (.loc p), some (.loc q), some (.int sz), some (.int ((k + 1 : Nat) : Int)), none] from rfl]
        simp only [tOr_ap, tOf_ap, m2_ap, mVar_ap, List.getElem?_cons_succ, List.getElem?_cons_zero, vK_some, bK_ok, k2_ap, mC_ap, eq_ii, isBl_ap, k0, if_false, Bool.false_eq_true, kOr_f, mA_ap, mCons_ap, kCons_ap, kCon_ap, mNil_ap, e1, hv, oK_ok, kIfS_t, sRet_ap, e2, kRt_ap, sK_rt, fK_rt]
      obtain ⟨x, y, z, e3, h3⟩ := gq_grw hF (g1.trans g2) hp.lt p2 (okD_lt0 h2 _)
      exact ⟨e, x, y, z, e3, h1, h2, h3.mono (by omega)⟩
    · have hv := decide_eq_false h
      obtain ⟨T0, hT0⟩ : ∃ T0, T0 = S1 ++ [.lst sg3] := ⟨_, rfl⟩
      have pl := p1.lt
      have p2 : Pot p T0 (c + 1) := by rw [hT0]; exact p1.app _
      have gT0 : Grw p S1 T0 := by rw [hT0]; exact Grw.app p S1 _
      have s0 : T0[S1.length]? = some (.lst sg3) := by rw [hT0]; exact at_end _ _
      obtain ⟨g, b1, b2, b3, e2, hg, p3⟩ := of_q p2 (by omega) s0 (by omega) (by decide) (by decide) (fun d hd => by
        simp only [sg3, List.mem_cons, List.not_mem_nil, or_false] at hd
        rcases hd with rfl | rfl | rfl <;> rfl)
      obtain ⟨T1, hT1⟩ : ∃ T1, T1 = T0.set p (il b1 b2 b3) := ⟨_, rfl⟩
      rw [← hT1] at e2 p3
      have gT1 : Grw p T0 T1 := by rw [hT1]; exact Grw.set p T0 _
      have qT1 : T1[q]? = some (.lst names4) := (gT0.trans gT1).at hne q1
      obtain ⟨ea, c1, c2, c3', e3, ha1, ha2, p4⟩ := @ih n (by omega) T1 p q _ p3 (by omega) qT1 hne
      obtain ⟨T2, hT2⟩ : ∃ T2, T2 = T1.set p (il c1 c2 c3') := ⟨_, rfl⟩
      rw [← hT2] at e3 p4
      have gT2 : Grw p T1 T2 := by rw [hT2]; exact Grw.set p T1 _
      obtain ⟨eb, d1, d2, d3, e4, hb1, hb2, p5⟩ := @ih n (by omega) T2 p q _ p4 (by omega) (gT2.at hne qT1) hne
      obtain ⟨T3, hT3⟩ : ∃ T3, T3 = T2.set p (il d1 d2 d3) := ⟨_, rfl⟩
      rw [← hT3] at e4 p5
      have gT3 : Grw p T2 T3 := by rw [hT3]; exact Grw.set p T2 _
      have hgs : ∃ s, g = .str s ∧ s ∈ signs ∧ okD [] (.str s) = true := by
        have : ∀ s ∈ signs, okD [] (.str s) = true := by decide +kernel
        simp only [sg3, List.mem_cons, List.not_mem_nil, or_false] at hg
        rcases hg with rfl | rfl | rfl
        · exact ⟨_, rfl, by simp [signs], this _ (by simp [signs])⟩
        · exact ⟨_, rfl, by simp [signs], this _ (by simp [signs])⟩
        · exact ⟨_, rfl, by simp [signs], this _ (by simp [signs])⟩
      obtain ⟨s, rfl, hs, hso⟩ := hgs
      have hok : okD [] (.tup [.str s, ea, eb]) = true := okD_of (by simp) (fun d hd => by
        simp only [List.mem_cons, List.not_mem_nil, or_false] at hd
        rcases hd with rfl | rfl | rfl
        · exact hso
        · exact ha2
        · exact hb2)
      have hF : F_l_sum (n + 1) [.loc p, .loc q, .int sz, .int ((k + 1 : Nat) : Int)] S = .ok (.tup [.str s, ea, eb]) T3 := by
        rw [F_l_sum]
        have hT0' : S1 ++ [MO.lst [.str (tx "+"), .str (tx "-"), .str (tx "*")]] = T0 := by rw [hT0]; rfl
        repeat (first | simp only [k0, k1, e1, hv, hT0', e2, e3, e4] | walk_at "ev")
      obtain ⟨x, y, z, e5, h3⟩ := gq_grw hF (((g1.trans gT0).trans gT1).trans (gT2.trans gT3)) hp.lt p5 (okD_lt0 hok _)
      refine ⟨_, x, y, z, e5, ?_, hok, h3.mono (by omega)⟩
      simp only [exprP, Bool.and_eq_true, decide_eq_true_eq]
      exact ⟨hs, ha1, hb1⟩
end Lw
namespace Lw
open PySem PySem.Spec PyProof.Rows L2 Fa
local macro_rules | `(tactic| walk_at "ev") => `(tactic| simp only [bK_ok, bK_err, bK_bad, bnd_ap, ret_ap, fail_ap, mVar_ap, vK_some, mC_ap, m1_ap, m2_ap, k2_ap, mNil_ap, mCons_ap, kCons_ap, kCon_ap, mA_ap, mIf_ap, kIf_t, kIf_f, tOf_ap, isBl_ap, tNt_ap, kNt_ap, tAn_ap, kAn_t, kAn_f, tOr_ap, kOr_t, kOr_f, mNot_ap, kNot_ap, mAnd_ap, kAnd_t, kAnd_f, mOr_ap, kOrV_t, kOrV_f,
  sSeq_ap, sK_nx, sK_rt, sK_bk, sK_ct, sK_ex, sK_bad, oK_ok, oK_err, oK_bad, kNx_ap, kRt_ap, sEx_ap, sRet_ap, sRetN_ap, sNx_ap, sBad_ap, sIf_ap, kIfS_t, kIfS_f, gN_ap, gT_ap, gT_tt, gTc_ap, gT0_ap, sAs_ap, kAs_ap, kAs2_ok, sPar_ap, kPar_ap, gSubD_ap, kSub1_ap, kSub2_ap, kSub3_ap, fK_nx, fK_rt, fK_ex, mLM_ap, mRng1_ap, mRng2_ap, mSrc_ap, src_t, src_r, src_s, src_k,
  mChain_ap, kCh1_ap, kCh2_ap, kCh3_t, kCh3_f, mSl_ap, kSl1_ap, kSl2_ap, mSlT_ap, kTl1_ap, kTl2_ap, mP0_ap, mP_ap, intO_ap, sl_t, dfl_ap, mTM_ap, kTM_k, kTM_t, mMeth_ap, kMe1_ap, kMe2_ap, kMe3_ap, gFld_ap, kF1_ap, gSubA_ap, kSA1_ap, kSA2_ap, sPar3_ap, kPar3_ap, mkD_ap, mkR_ok, dct0D_ap, mDisp_ap, mPairs_nil, mPairs_cons, kPr1_ap, kPr2_ap, kPr3_ap, tuple_t, list_t, mZip_ap, zip_tt,
  wipeE, nc0, nc1, nc2, nc3, nc4, nc5, nc6, nc7, nc8, nc9, nc10, nc11, nc12, nc13, nc14, nc15, Int.reduceEq, Int.reduceLE, Int.reduceLT, Int.reduceSub, Int.reduceAdd,
  fnM_ap, tupD_ap, lstD_ap, le_line, Nat.reduceLeDiff, eq_self,
  add_ii, sub_ii, neg_i, lt_ii, le_ii, gt_ii, ge_ii, isN_n, isN_i, isN_t, isN_s, isN_b, isN_l, abs_i, max_ii, min_ii, int_i, int_b, len_t, len_r, eq_ii, eq_bb, eq_ss,
  List.map_cons, List.map_nil, List.cons_append, List.nil_append, List.append_nil, List.replicate_succ, List.replicate_zero, List.length_cons, List.length_nil, Nat.reduceSub, Nat.reduceAdd, Nat.sub_self, Nat.zero_add,
  List.getElem?_cons_succ, List.getElem?_cons_zero, List.set_cons_succ, List.set_cons_zero, Bool.not_true, Bool.not_false, decide_true, decide_false, if_true, if_false, reduceIte, Bool.false_eq_true])
/-! ### plain worths -/
def plain (hd : Bk) : D → Int
  | .int n => n
  | .str z => (hd.lookup z).getD 0
  | .tup [.str g, a, b] => sgn g (plain hd a) (plain hd b)
  | _ => 0
def pbN : Nat → Nat
  | 0 => 6
  | k + 1 => pbN k * pbN k
theorem pbN_ge (k : Nat) : 6 ≤ pbN k := by
  induction k with
  | zero => decide
  | succ k ih =>
    have : 6 * 1 ≤ pbN k * pbN k := Nat.mul_le_mul ih (by omega)
    exact this
theorem pbN_mono {j k : Nat} (h : j ≤ k) : pbN j ≤ pbN k := by
  induction k with
  | zero => have : j = 0 := by omega
            subst this; exact Nat.le_refl _
  | succ k ih =>
    by_cases e : j = k + 1
    · subst e; exact Nat.le_refl _
    · have h1 := ih (by omega)
      have h2 := pbN_ge k
      have h3 : pbN k * 1 ≤ pbN k * pbN k := Nat.mul_le_mul (Nat.le_refl _) (by omega)
      show pbN j ≤ pbN k * pbN k
      omega
theorem pbN_le {k : Nat} (h : k ≤ 3) : pbN k ≤ 1679616 := Nat.le_trans (pbN_mono h) (by decide)
theorem sgn_le {g : Str} {x y : Int} {B : Nat} (hB : 6 ≤ B) (hx : x.natAbs ≤ B) (hy : y.natAbs ≤ B) : (sgn g x y).natAbs ≤ B * B := by
  have h2 : 2 * B ≤ B * B := Nat.mul_le_mul (by omega) (Nat.le_refl _)
  unfold sgn
  split
  · omega
  · split
    · omega
    · rw [Int.natAbs_mul]
      exact Nat.mul_le_mul hx hy
def HdOk (hd : Bk) : Prop := ∀ z, z = tx "it" ∨ z ∈ c3 → ∃ v, hd.lookup z = some v ∧ v.natAbs ≤ 6
theorem disp_q {S : Sto} {x y : Int} {g : Str} (hg : g ∈ signs) (hx : x.natAbs ≤ 1679616) {r : Fa.Env} (h2 : r[2]? = some (some (.int x))) (h3 : r[3]? = some (some (.int y))) (mg : Fa.Env → M D) (hmg : ∀ T, mg r T = .ok (.str g) T) :
    ∃ l, m2 ixA (mDisp (((mC (.str (tx "+"))), (m2 addD (mVar 2) (mVar 3))) :: ((mC (.str (tx "-"))), (m2 subD (mVar 2) (mVar 3))) :: ((mC (.str (tx "*"))), (m2 mulB (mVar 2) (mVar 3))) :: [])) mg r S = .ok (.int (sgn g x y)) (S ++ l) := by
  have ml : ∀ S, mulB (.int x) (.int y) S = .ok (.int (x * y)) S := fun S => mulB_ii _ _ _ (by
    unfold mulC
    rw [decide_eq_true (show -(2 ^ 64) < x by omega), decide_eq_true (show x < 2 ^ 64 by omega)]
    rfl)
  obtain ⟨kvs, hkvs⟩ : ∃ kvs : List (Key × D), kvs = [(Sum.inr (tx "+"), .int (x + y)), (Sum.inr (tx "-"), .int (x - y)), (Sum.inr (tx "*"), .int (x * y))] := ⟨_, rfl⟩
  have hkp : keyP [(.str (tx "+"), .int (x + y)), (.str (tx "-"), .int (x - y)), (.str (tx "*"), .int (x * y))] = some kvs := by rw [hkvs]; rfl
  have hmd : mergeD [] kvs = kvs := by
    have hk : kvs.map (·.1) = [Sum.inr (tx "+"), Sum.inr (tx "-"), Sum.inr (tx "*")] := by rw [hkvs]; rfl
    exact putsKV_nodup (by rw [hk]; decide +kernel)
  have hd := dsp_ok (S ++ [.dct []]) (n := S.length) (at_end _ _) hkp (by rw [hkvs]; exact Nat.le_of_ble_eq_true rfl)
  rw [hmd, set_end] at hd
  have hv : valKD kvs (Sum.inr g) = some (.int (sgn g x y)) := by
    have n1 : ¬ tx "-" = tx "+" := by decide +kernel
    have n2 : ¬ tx "*" = tx "+" := by decide +kernel
    have n3 : ¬ tx "*" = tx "-" := by decide +kernel
    have k1 : ∀ a b : Str, decide ((Sum.inr a : Key) = Sum.inr b) = decide (a = b) := fun a b => by
      by_cases h : a = b
      · rw [decide_eq_true h, decide_eq_true (by rw [h])]
      · rw [decide_eq_false h, decide_eq_false fun e => h (by injection e)]
    unfold valKD sgn
    rw [hkvs]
    rcases signs_ne hg with rfl | rfl | rfl
    · simp
    · rw [if_neg n1, if_pos rfl, List.find?_cons, k1, decide_eq_false (fun e => n1 e.symm)]
      simp
    · rw [if_neg n2, if_neg n3, List.find?_cons, k1, decide_eq_false (fun e => n2 e.symm)]
      simp only
      rw [List.find?_cons, k1, decide_eq_false (fun e => n3 e.symm)]
      simp
  have ix := ixA_d (S ++ [.dct kvs]) (k := .str g) (key := Sum.inr g) (at_end _ _) rfl hv
  refine ⟨[.dct kvs], ?_⟩
  repeat (first | walk_at "ev" | simp only [h2, h3, ml, hd, hmg, ix])
theorem plain_q {hd : Bk} (hh : HdOk hd) {sz : Int} (hsz : 2 ≤ sz ∧ sz ≤ 6) : ∀ (k n : Nat) {S : Sto} {e : D} {h : Nat}, k ≤ 3 → k < n → okD S e = true → exprP c3 sz k e = true → S[h]? = some (.dct (bkD hd)) →
    gq (F_l_plain n) [e, .loc h] S = .ok (.int (plain hd e)) S ∧ (plain hd e).natAbs ≤ pbN k := by
  intro k
  induction k with
  | zero =>
    intro n S e h hk hn ho he hS
    obtain ⟨n, rfl⟩ : ∃ m, n = m + 1 := ⟨n - 1, by omega⟩
    exact step hh hsz n ho he hS (fun j hj => by omega)
  | succ k ih =>
    intro n S e h hk hn ho he hS
    obtain ⟨n, rfl⟩ : ∃ m, n = m + 1 := ⟨n - 1, by omega⟩
    exact step hh hsz n ho he hS (fun j hj {S e h} ho' he' hS' => by
      have : k = j := by omega
      rw [this] at ih
      obtain ⟨h1, h2⟩ := ih n (by omega) (by omega) ho' he' hS'
      exact ⟨h1, h2, pbN_le (by omega)⟩)
where
  step {hd : Bk} (hh : HdOk hd) {sz : Int} (hsz : 2 ≤ sz ∧ sz ≤ 6) {k : Nat} (n : Nat) {S : Sto} {e : D} {h : Nat} (ho : okD S e = true) (he : exprP c3 sz k e = true) (hS : S[h]? = some (.dct (bkD hd)))
      (ih : ∀ j, k = j + 1 → ∀ {S : Sto} {e : D} {h : Nat}, okD S e = true → exprP c3 sz j e = true → S[h]? = some (.dct (bkD hd)) → gq (F_l_plain n) [e, .loc h] S = .ok (.int (plain hd e)) S ∧ (plain hd e).natAbs ≤ pbN j ∧ pbN j ≤ 1679616) :
      gq (F_l_plain (n + 1)) [e, .loc h] S = .ok (.int (plain hd e)) S ∧ (plain hd e).natAbs ≤ pbN k := by
    have i1 := isi_tup ho
    have i2 := isi_str ho
    rcases exprP_cases he with ⟨m, rfl, h1, h2⟩ | ⟨z, rfl, hz⟩ | ⟨j, g, a, b, hk, rfl, hg, ha, hb⟩
    · simp only [isTup, isStr] at i1 i2
      refine ⟨gq_new0 ?_ rfl, ?_⟩
      · rw [F_l_plain]
        repeat (first | walk_at "ev" | simp only [i1, i2, plain])
      · have := pbN_ge k
        show m.natAbs ≤ _
        omega
    · simp only [isTup, isStr] at i1 i2
      obtain ⟨v, e1, e2⟩ := hh z hz
      have g1 : ixA (.loc h) (.str z) S = .ok (.int v) S := ixA_d S hS (key := Sum.inr z) rfl (by rw [bkD_val, e1]; rfl)
      refine ⟨gq_new0 ?_ rfl, ?_⟩
      · rw [F_l_plain]
        repeat (first | walk_at "ev" | simp only [i1, i2, g1, plain, e1, Option.getD_some])
      · have := pbN_ge k
        show ((hd.lookup z).getD 0).natAbs ≤ _
        rw [e1]
        show v.natAbs ≤ _
        omega
    · simp only [isTup, isStr] at i1 i2
      obtain ⟨q1, b1, c1⟩ := ih j hk ((okD_tup ho).2 a (by simp)) ha hS
      obtain ⟨q2, b2, c2⟩ := ih j hk ((okD_tup ho).2 b (by simp)) hb hS
      have x0 : ∀ S, ixD (.tup [.str g, a, b]) (.int 0) S = .ok (.str g) S := fun S => ix_t S rfl
      have x1 : ∀ S, ixD (.tup [.str g, a, b]) (.int 1) S = .ok a S := fun S => ix_t S rfl
      have x2 : ∀ S, ixD (.tup [.str g, a, b]) (.int 2) S = .ok b S := fun S => ix_t S rfl
      have hp : plain hd (.tup [.str g, a, b]) = sgn g (plain hd a) (plain hd b) := by rw [plain]
      obtain ⟨l, hl⟩ := disp_q (S := S) (x := plain hd a) (y := plain hd b) hg (by omega) (r := [some (.tup [.str g, a, b]), some (.loc h), some (.int (plain hd a)), some (.int (plain hd b))]) rfl rfl (m2 ixD (mVar 0) (mC (.int 0))) (fun T => by repeat (first | walk_at "ev" | simp only [x0]))
      rw [hp]
      refine ⟨gq_new (l := l) ?_ rfl, ?_⟩
      · rw [F_l_plain]
        rw [fnM_ap _ _ _ _ _ (by rfl), sSeq_ap, sIf_ap]
        rw [show ([D.tup [.str g, a, b], D.loc h].map some ++ List.replicate (4 - 2) none) = [some (.tup [.str g, a, b]), some (.loc h), none, none] from rfl]
        simp only [tOf_ap, mA_ap, mCons_ap, mVar_ap, List.getElem?_cons_zero, List.getElem?_cons_succ, vK_some, bK_ok, kCons_ap, kCon_ap, mC_ap, mNil_ap, i1, isBl_ap, oK_ok, kIfS_t, sSeq_ap, sPar_ap, m2_ap, k2_ap, x1, x2, q1, q2, kPar_ap, List.set_cons_succ, List.set_cons_zero, sK_nx, sRet_ap]
        rw [← m2_ap, hl]
        rfl
      · rw [hk]
        exact sgn_le (pbN_ge j) b1 b2
/-- worths are plain integers, reckoned by the size -/
theorem plain_reck {hd bk : Bk} {sz it : Int} (w : Wo sz it bk) (hb : bk.map (·.1) = c3) (h1 : ∀ z ∈ c3, hd.lookup z = bk.lookup z) (h2 : hd.lookup (tx "it") = some it) : ∀ (k : Nat) {e : D}, exprP c3 sz k e = true → (plain hd e).fmod sz = reck sz it bk e := by
  have fm : ∀ x : Int, x.fmod sz = x % sz := fun x => Int.fmod_eq_emod_of_nonneg _ (by have := w.lo; omega)
  have small : ∀ x : Int, 0 ≤ x → x < sz → x.fmod sz = x := fun x a b => by rw [fm]; exact Int.emod_eq_of_lt a b
  intro k
  induction k with
  | zero =>
    intro e he
    rcases exprP_cases he with ⟨m, rfl, a1, a2⟩ | ⟨z, rfl, hz⟩ | ⟨j, g, a, b, hk, _⟩
    · exact small m a1 (by omega)
    · exact leaf w hb h1 h2 small hz
    · omega
  | succ k ih =>
    intro e he
    rcases exprP_cases he with ⟨m, rfl, a1, a2⟩ | ⟨z, rfl, hz⟩ | ⟨j, g, a, b, hk, rfl, hg, ha, hb'⟩
    · exact small m a1 (by omega)
    · exact leaf w hb h1 h2 small hz
    · have : k = j := by omega
      subst this
      have e1 := ih ha
      have e2 := ih hb'
      rw [plain, reck, ← e1, ← e2]
      unfold sgn
      rw [fm, fm, fm]
      split
      · rw [fm, ← Int.add_emod]
      · split
        · rw [fm, ← Int.sub_emod]
        · rw [fm, ← Int.mul_emod]
where
  leaf {hd bk : Bk} {sz it : Int} (w : Wo sz it bk) (hb : bk.map (·.1) = c3) (h1 : ∀ z ∈ c3, hd.lookup z = bk.lookup z) (h2 : hd.lookup (tx "it") = some it) (small : ∀ x : Int, 0 ≤ x → x < sz → x.fmod sz = x) {z : Str} (hz : z = tx "it" ∨ z ∈ c3) : (plain hd (.str z)).fmod sz = reck sz it bk (.str z) := by
    rw [plain, reck]
    by_cases e : z = tx "it"
    · subst e
      rw [if_pos rfl, h2]
      exact small it w.it0 w.it1
    · rw [if_neg e]
      rcases hz with hz | hz
      · exact absurd hz e
      · rw [h1 z hz]
        obtain ⟨v, e1, e2⟩ := lk_mem (by rw [hb]; exact hz)
        rw [e1]
        have := w.wo _ e2
        exact small v this.1 this.2
end Lw
namespace Lw
open PySem PySem.Spec PyProof.Rows L2 Fa
local macro_rules | `(tactic| walk_at "ev") => `(tactic| simp only [bK_ok, bK_err, bK_bad, bnd_ap, ret_ap, fail_ap, mVar_ap, vK_some, mC_ap, m1_ap, m2_ap, k2_ap, mNil_ap, mCons_ap, kCons_ap, kCon_ap, mA_ap, mIf_ap, kIf_t, kIf_f, tOf_ap, isBl_ap, tNt_ap, kNt_ap, tAn_ap, kAn_t, kAn_f, tOr_ap, kOr_t, kOr_f, mNot_ap, kNot_ap, mAnd_ap, kAnd_t, kAnd_f, mOr_ap, kOrV_t, kOrV_f,
  sSeq_ap, sK_nx, sK_rt, sK_bk, sK_ct, sK_ex, sK_bad, oK_ok, oK_err, oK_bad, kNx_ap, kRt_ap, sEx_ap, sRet_ap, sRetN_ap, sNx_ap, sBad_ap, sIf_ap, kIfS_t, kIfS_f, gN_ap, gT_ap, gT_tt, gTc_ap, gT0_ap, sAs_ap, kAs_ap, kAs2_ok, sPar_ap, kPar_ap, gSubD_ap, kSub1_ap, kSub2_ap, kSub3_ap, fK_nx, fK_rt, fK_ex, mLM_ap, mRng1_ap, mRng2_ap, mSrc_ap, src_t, src_r, src_s, src_k,
  mChain_ap, kCh1_ap, kCh2_ap, kCh3_t, kCh3_f, mSl_ap, kSl1_ap, kSl2_ap, mSlT_ap, kTl1_ap, kTl2_ap, mP0_ap, mP_ap, intO_ap, sl_t, dfl_ap, mTM_ap, kTM_k, kTM_t, mMeth_ap, kMe1_ap, kMe2_ap, kMe3_ap, gFld_ap, kF1_ap, gSubA_ap, kSA1_ap, kSA2_ap, sPar3_ap, kPar3_ap, mkD_ap, mkR_ok, dct0D_ap, mDisp_ap, mPairs_nil, mPairs_cons, kPr1_ap, kPr2_ap, kPr3_ap, tuple_t, list_t, mZip_ap, zip_tt,
  wipeE, nc0, nc1, nc2, nc3, nc4, nc5, nc6, nc7, nc8, nc9, nc10, nc11, nc12, nc13, nc14, nc15, Int.reduceEq, Int.reduceLE, Int.reduceLT, Int.reduceSub, Int.reduceAdd,
  fnM_ap, tupD_ap, lstD_ap, le_line, Nat.reduceLeDiff, eq_self,
  add_ii, sub_ii, neg_i, lt_ii, le_ii, gt_ii, ge_ii, isN_n, isN_i, isN_t, isN_s, isN_b, isN_l, abs_i, max_ii, min_ii, int_i, int_b, len_t, len_r, eq_ii, eq_bb, eq_ss,
  List.map_cons, List.map_nil, List.cons_append, List.nil_append, List.append_nil, List.replicate_succ, List.replicate_zero, List.length_cons, List.length_nil, Nat.reduceSub, Nat.reduceAdd, Nat.sub_self, Nat.zero_add,
  List.getElem?_cons_succ, List.getElem?_cons_zero, List.set_cons_succ, List.set_cons_zero, Bool.not_true, Bool.not_false, decide_true, decide_false, if_true, if_false, reduceIte, Bool.false_eq_true])
/-! ### the model of the law -/
section
variable (e0 e1 e2 e3 e4 e5 : D)
def sayD (n : Int) : D := .tup [.str (tx "say"), .int n]
def prog8 : D := .tup [.tup [.str (tx "say"), e0], .tup [.str (tx "send"), .str (tx "u"), e1], .tup [.str (tx "wait"), .str (tx "k"), e2], .tup [.str (tx "repeat"), e3, .tup [sayD 1]],
  .tup [.str (tx "if"), .tup [.str (tx "<"), e4, e5], .tup [sayD 1], .tup [sayD 0]], .tup [.str (tx "set"), .str (tx "m"), e0]]
def after8 : D := .tup [.tup [.str (tx "set"), .str (tx "n"), e1], .tup [.str (tx "say"), .tup [.str (tx "+"), .str (tx "n"), .str (tx "n")]], .tup [.str (tx "if"), .tup [.str (tx "="), .str (tx "n"), e2], .tup [sayD 1], .tup [sayD 0]]]
def cells8 : List D := [.tup [.str (tx "m"), .int 0], .tup [.str (tx "n"), .int 0], .tup [.str (tx "o"), .int 0]]
def stn8 : Stn := ⟨tx "st", cells8, [tx "x", tx "y"], [tx "u"], [tx "k"], [.tup [], prog8 e0 e1 e2 e3 e4 e5, after8 e1 e2]⟩
def mdl8 (sz : Int) : Mdl := ⟨sz, [stn8 e0 e1 e2 e3 e4 e5], [], [.tup [.int 0, .str (tx "st"), .str (tx "x"), .int 0]]⟩
end
section
variable {e0 e1 e2 e3 e4 e5 : D} {sz : Int}
structure Es (sz : Int) (e0 e1 e2 e3 e4 e5 : D) : Prop where
  h0 : exprP c3 sz 3 e0 = true ∧ okD [] e0 = true
  h1 : exprP c3 sz 3 e1 = true ∧ okD [] e1 = true
  h2 : exprP c3 sz 3 e2 = true ∧ okD [] e2 = true
  h3 : exprP c3 sz 3 e3 = true ∧ okD [] e3 = true
  h4 : exprP c3 sz 3 e4 = true ∧ okD [] e4 = true
  h5 : exprP c3 sz 3 e5 = true ∧ okD [] e5 = true
theorem cells8_names : cells8.map (fun d => strOf (fstD d)) = c3 := rfl
theorem say_block (hsz : 2 ≤ sz) {n : Int} (h0 : 0 ≤ n) (h1 : n < 2) (k : Nat) : progP ⟨c3, [tx "u"], [tx "k"]⟩ sz k (.tup [sayD n]) = true := progP_of (by simp) (fun d hd => by
  simp at hd
  subst hd
  exact stmtP_say (exprP_int h0 (by omega)))
theorem prog8_ok (hsz : 2 ≤ sz ∧ sz ≤ 6) (E : Es sz e0 e1 e2 e3 e4 e5) : progP ⟨c3, [tx "u"], [tx "k"]⟩ sz 2 (prog8 e0 e1 e2 e3 e4 e5) = true := by
  refine progP_of (by simp) (fun d hd => ?_)
  simp only [List.mem_cons, List.not_mem_nil, or_false] at hd
  rcases hd with rfl | rfl | rfl | rfl | rfl | rfl
  · exact stmtP_say E.h0.1
  · exact stmtP_send (by simp) E.h1.1
  · exact stmtP_wait (by simp) E.h2.1
  · exact stmtP_rep E.h3.1 (say_block hsz.1 (by decide) (by decide) 1)
  · exact stmtP_if (condP_of (by simp [tests]) E.h4.1 E.h5.1) (say_block hsz.1 (by decide) (by decide) 1) (say_block hsz.1 (by decide) (by decide) 1)
  · exact stmtP_set (show tx "m" ∈ c3 by simp [c3]) E.h0.1
theorem after8_ok (hsz : 2 ≤ sz ∧ sz ≤ 6) (E : Es sz e0 e1 e2 e3 e4 e5) : progP ⟨c3, [tx "u"], [tx "k"]⟩ sz 2 (after8 e1 e2) = true := by
  refine progP_of (by simp) (fun d hd => ?_)
  have hn : exprP c3 sz 2 (.str (tx "n")) = true := exprP_name (.inr (by simp [c3]))
  simp only [List.mem_cons, List.not_mem_nil, or_false] at hd
  rcases hd with rfl | rfl | rfl
  · exact stmtP_set (show tx "n" ∈ c3 by simp [c3]) E.h1.1
  · exact stmtP_say (exprP_op (by simp [signs]) hn hn)
  · exact stmtP_if (condP_of (by simp [tests]) (exprP_name (.inr (by simp [c3]))) E.h2.1) (say_block hsz.1 (by decide) (by decide) 1) (say_block hsz.1 (by decide) (by decide) 1)
theorem numP_0 (hsz : 2 ≤ sz) : numP 0 (some (sz - 1)) (.int 0) = true := by
  show (decide ((0 : Int) ≤ 0) && decide (0 ≤ sz - 1)) = true
  rw [decide_eq_true (show (0 : Int) ≤ sz - 1 by omega)]
  rfl
theorem cells8_ok (hsz : 2 ≤ sz) : cellsP sz (.tup cells8) = true := by
  have h1 : cells8.all pairP = true := by decide +kernel
  have h2 : cells8.all (worthP sz) = true := by
    show (numP 0 (some (sz - 1)) (.int 0) && (numP 0 (some (sz - 1)) (.int 0) && (numP 0 (some (sz - 1)) (.int 0) && true))) = true
    rw [numP_0 hsz]
    rfl
  simp only [cellsP, h1, h2, Bool.and_true]
  rfl
theorem stn8_ok (hsz : 2 ≤ sz ∧ sz ≤ 6) (E : Es sz e0 e1 e2 e3 e4 e5) : StnOk sz (stn8 e0 e1 e2 e3 e4 e5) := by
  refine ⟨show nameS (tx "st") = true by decide +kernel, cells8_ok hsz.1, ⟨show [tx "x", tx "y"].all nameS = true by decide +kernel, show 2 ≤ 3 by decide⟩, ⟨show [tx "u"].all nameS = true by decide +kernel, show 1 ≤ 3 by decide⟩, ⟨show [tx "k"].all nameS = true by decide +kernel, show 1 ≤ 2 by decide⟩, rfl, ?_, ?_, ?_⟩
  · show ¬ tx "it" ∈ c3 ++ [tx "x", tx "y"] ++ [tx "u"] ++ [tx "k"]
    decide +kernel
  · show (c3 ++ [tx "x", tx "y"] ++ [tx "u"] ++ [tx "k"]).Nodup
    decide +kernel
  · show (progP ⟨c3, [tx "u"], [tx "k"]⟩ sz 2 (.tup []) && (progP ⟨c3, [tx "u"], [tx "k"]⟩ sz 2 (prog8 e0 e1 e2 e3 e4 e5) && (progP ⟨c3, [tx "u"], [tx "k"]⟩ sz 2 (after8 e1 e2) && true))) = true
    rw [prog8_ok hsz E, after8_ok hsz E]
    rfl
theorem at8 : atN [stn8 e0 e1 e2 e3 e4 e5] (.str (tx "st")) = some (stn8 e0 e1 e2 e3 e4 e5) := by
  unfold atN
  rw [List.find?_cons]
  have : hasN (.str (tx "st")) (stn8 e0 e1 e2 e3 e4 e5) = true := show decide (tx "st" = tx "st") = true from decide_eq_true rfl
  rw [this]
theorem mdl8_ok (hsz : 2 ≤ sz ∧ sz ≤ 6) (E : Es sz e0 e1 e2 e3 e4 e5) : MdlOk (mdl8 e0 e1 e2 e3 e4 e5 sz) := by
  refine ⟨hsz.1, hsz.2, by simp [mdl8], fun s hs => ?_, by simp [mdl8], rfl, ?_⟩
  · have : s = stn8 e0 e1 e2 e3 e4 e5 := by simpa [mdl8] using hs
    subst this
    exact stn8_ok hsz E
  · have hx : ¬ tx "x" ∈ [tx "k"] := by decide +kernel
    have hf : firstP [stn8 e0 e1 e2 e3 e4 e5] sz [] (.tup [.int 0, .str (tx "st"), .str (tx "x"), .int 0]) = true := by
      simp only [firstP, at8]
      show (numP 0 none (.int 0) && (if tx "x" ∈ [tx "k"] then _ else decide (tx "x" ∈ [tx "x", tx "y"]) && (_ && numP 0 (some (sz - 1)) (.int 0)))) = true
      rw [if_neg hx, numP_0 hsz.1, decide_eq_true (show tx "x" ∈ [tx "x", tx "y"] by simp)]
      rfl
    have hb : isBell [stn8 e0 e1 e2 e3 e4 e5] (.tup [.int 0, .str (tx "st"), .str (tx "x"), .int 0]) = false := by
      simp only [isBell, at8]
      exact decide_eq_false hx
    show (([D.tup [.int 0, .str (tx "st"), .str (tx "x"), .int 0]].all (firstP [stn8 e0 e1 e2 e3 e4 e5] sz [])) && decide (([D.tup [.int 0, .str (tx "st"), .str (tx "x"), .int 0]].filter (isBell [stn8 e0 e1 e2 e3 e4 e5])).map bellK).Nodup) = true
    rw [List.filter_cons, if_neg (by rw [hb]; simp), List.all_cons, hf]
    rfl
theorem so (x : String) (h : okD [] (.str (tx x)) = true := by decide +kernel) : okD [] (.str (tx x)) = true := h
theorem mdl8_okD (E : Es sz e0 e1 e2 e3 e4 e5) : okD [] (mdl8 e0 e1 e2 e3 e4 e5 sz).d = true := by
  have s1 := so "say"; have s2 := so "send"; have s3 := so "wait"; have s4 := so "repeat"; have s5 := so "if"; have s6 := so "set"; have s7 := so "u"; have s8 := so "k"; have s9 := so "m"; have s10 := so "n"; have s11 := so "o"
  have t1 := so "x"; have t2 := so "y"; have t3 := so "st"; have t4 := so "<"; have t5 := so "="; have t6 := so "+"
  obtain ⟨⟨_, h0⟩, ⟨_, h1⟩, ⟨_, h2⟩, ⟨_, h3⟩, ⟨_, h4⟩, ⟨_, h5⟩⟩ := E
  have tp : ∀ {ds : List D}, ds.length ≤ 1000 → okDs [] ds = true → okD [] (.tup ds) = true := fun a b => okD_of a (okDs_iff.mp b)
  have cn : ∀ {d : D} {ds : List D}, okD [] d = true → okDs [] ds = true → okDs [] (d :: ds) = true := fun a b => by simp only [okDs, a, b, Bool.and_true]
  have nl : okDs [] [] = true := rfl
  have i : ∀ n : Int, okD [] (.int n) = true := fun _ => rfl
  have sd : ∀ n, okD [] (sayD n) = true := fun n => tp (by simp) (cn s1 (cn (i n) nl))
  have sb : ∀ n, okD [] (.tup [sayD n]) = true := fun n => tp (by simp) (cn (sd n) nl)
  have p8 : okD [] (prog8 e0 e1 e2 e3 e4 e5) = true := tp (by simp) (cn (tp (by simp) (cn s1 (cn h0 nl))) (cn (tp (by simp) (cn s2 (cn s7 (cn h1 nl)))) (cn (tp (by simp) (cn s3 (cn s8 (cn h2 nl)))) (cn (tp (by simp) (cn s4 (cn h3 (cn (sb 1) nl))))
    (cn (tp (by simp) (cn s5 (cn (tp (by simp) (cn t4 (cn h4 (cn h5 nl)))) (cn (sb 1) (cn (sb 0) nl))))) (cn (tp (by simp) (cn s6 (cn s9 (cn h0 nl)))) nl))))))
  have a8 : okD [] (after8 e1 e2) = true := tp (by simp) (cn (tp (by simp) (cn s6 (cn s10 (cn h1 nl)))) (cn (tp (by simp) (cn s1 (cn (tp (by simp) (cn t6 (cn s10 (cn s10 nl)))) nl)))
    (cn (tp (by simp) (cn s5 (cn (tp (by simp) (cn t5 (cn s10 (cn h2 nl)))) (cn (sb 1) (cn (sb 0) nl))))) nl)))
  have c8 : okD [] (.tup cells8) = true := by decide +kernel
  have d8 : okD [] (stn8 e0 e1 e2 e3 e4 e5).d = true := tp (by simp) (cn t3 (cn c8 (cn (tp (by simp [stn8]) (cn t1 (cn t2 nl))) (cn (tp (by simp [stn8]) (cn s7 nl)) (cn (tp (by simp [stn8]) (cn s8 nl)) (cn (tp (by simp [stn8]) (cn (tp (by simp) nl) (cn p8 (cn a8 nl)))) nl))))))
  exact tp (by simp) (cn (i _) (cn (tp (by simp [mdl8]) (cn d8 nl)) (cn (tp (by simp [mdl8]) nl) (cn (tp (by simp [mdl8]) (cn (tp (by simp) (cn (i 0) (cn t3 (cn t1 (cn (i 0) nl))))) nl)) nl))))
end
end Lw
namespace Lw
open PySem PySem.Spec PyProof.Rows L2 Fa
local macro_rules | `(tactic| walk_at "ev") => `(tactic| simp only [bK_ok, bK_err, bK_bad, bnd_ap, ret_ap, fail_ap, mVar_ap, vK_some, mC_ap, m1_ap, m2_ap, k2_ap, mNil_ap, mCons_ap, kCons_ap, kCon_ap, mA_ap, mIf_ap, kIf_t, kIf_f, tOf_ap, isBl_ap, tNt_ap, kNt_ap, tAn_ap, kAn_t, kAn_f, tOr_ap, kOr_t, kOr_f, mNot_ap, kNot_ap, mAnd_ap, kAnd_t, kAnd_f, mOr_ap, kOrV_t, kOrV_f,
  sSeq_ap, sK_nx, sK_rt, sK_bk, sK_ct, sK_ex, sK_bad, oK_ok, oK_err, oK_bad, kNx_ap, kRt_ap, sEx_ap, sRet_ap, sRetN_ap, sNx_ap, sBad_ap, sIf_ap, kIfS_t, kIfS_f, gN_ap, gT_ap, gT_tt, gTc_ap, gT0_ap, sAs_ap, kAs_ap, kAs2_ok, sPar_ap, kPar_ap, gSubD_ap, kSub1_ap, kSub2_ap, kSub3_ap, fK_nx, fK_rt, fK_ex, mLM_ap, mRng1_ap, mRng2_ap, mSrc_ap, src_t, src_r, src_s, src_k,
  mChain_ap, kCh1_ap, kCh2_ap, kCh3_t, kCh3_f, mSl_ap, kSl1_ap, kSl2_ap, mSlT_ap, kTl1_ap, kTl2_ap, mP0_ap, mP_ap, intO_ap, sl_t, dfl_ap, mTM_ap, kTM_k, kTM_t, mMeth_ap, kMe1_ap, kMe2_ap, kMe3_ap, gFld_ap, kF1_ap, gSubA_ap, kSA1_ap, kSA2_ap, sPar3_ap, kPar3_ap, mkD_ap, mkR_ok, dct0D_ap, mDisp_ap, mPairs_nil, mPairs_cons, kPr1_ap, kPr2_ap, kPr3_ap, tuple_t, list_t, mZip_ap, zip_tt,
  wipeE, nc0, nc1, nc2, nc3, nc4, nc5, nc6, nc7, nc8, nc9, nc10, nc11, nc12, nc13, nc14, nc15, Int.reduceEq, Int.reduceLE, Int.reduceLT, Int.reduceSub, Int.reduceAdd,
  fnM_ap, tupD_ap, lstD_ap, le_line, Nat.reduceLeDiff, eq_self,
  add_ii, sub_ii, neg_i, lt_ii, le_ii, gt_ii, ge_ii, isN_n, isN_i, isN_t, isN_s, isN_b, isN_l, abs_i, max_ii, min_ii, int_i, int_b, len_t, len_r, eq_ii, eq_bb, eq_ss,
  List.map_cons, List.map_nil, List.cons_append, List.nil_append, List.append_nil, List.replicate_succ, List.replicate_zero, List.length_cons, List.length_nil, Nat.reduceSub, Nat.reduceAdd, Nat.sub_self, Nat.zero_add,
  List.getElem?_cons_succ, List.getElem?_cons_zero, List.set_cons_succ, List.set_cons_zero, Bool.not_true, Bool.not_false, decide_true, decide_false, if_true, if_false, reduceIte, Bool.false_eq_true])
/-! ### what its handlers do -/
section
variable {e0 e1 e2 e3 e4 e5 : D} {sz it w0 w1 w2 : Int}
def bk8 (w0 w1 w2 : Int) : Bk := [(tx "m", w0), (tx "n", w1), (tx "o", w2)]
theorem putS_hit {α : Type} {k : Str} {v w : α} {l : List (Str × α)} : putS ((k, w) :: l) k v = (k, v) :: l.map (fun p => if p.1 = k then (p.1, v) else p) := by
  unfold putS
  rw [List.any_cons, decide_eq_true rfl, Bool.true_or, if_pos rfl, List.map_cons, if_pos rfl]
theorem put_m (v : Int) : putS (bk8 w0 w1 w2) (tx "m") v = bk8 v w1 w2 := by
  unfold bk8
  rw [putS_hit, List.map_cons, List.map_cons, List.map_nil, if_neg (show ¬ tx "n" = tx "m" by decide +kernel), if_neg (show ¬ tx "o" = tx "m" by decide +kernel)]
theorem put_n (v : Int) : putS (bk8 w0 w1 w2) (tx "n") v = bk8 w0 v w2 := by
  unfold bk8 putS
  have h : ([(tx "m", w0), (tx "n", w1), (tx "o", w2)].any fun p => decide (p.1 = tx "n")) = true := by simp
  rw [if_pos h, List.map_cons, List.map_cons, List.map_cons, List.map_nil, if_neg (show ¬ tx "m" = tx "n" by decide +kernel), if_pos rfl, if_neg (show ¬ tx "o" = tx "n" by decide +kernel)]
theorem look_n : (bk8 w0 w1 w2).lookup (tx "n") = some w1 := by
  unfold bk8
  rw [List.lookup_cons]
  have : (tx "n" == tx "m") = false := by decide +kernel
  simp only [this, List.lookup_cons, beq_self_eq_true]
theorem do_say (k : Nat) (n : Int) (s : RS) : doB sz it k (.tup [sayD n]) s = { s with said := s.said ++ [n] } := by
  rw [doB_eq]
  show doS sz it (runB sz it k) (sayD n) s = _
  unfold sayD
  rw [doS_say]
  rfl
theorem iter_say (k : Nat) : ∀ (j : Nat) (s : RS), iter (doB sz it k (.tup [sayD 1])) j s = { s with said := s.said ++ List.replicate j 1 }
  | 0, s => by
    show s = _
    simp
  | j + 1, s => by
    rw [iter_snoc, iter_say k j s, do_say]
    rw [List.replicate_succ', List.append_assoc]
theorem res8 : resD (resS sz it (stn8 e0 e1 e2 e3 e4 e5) [w0, w1, w2] (prog8 e0 e1 e2 e3 e4 e5)) [tx "k"] =
    .tup [.tup [.int (reck sz it (bk8 w0 w1 w2) e0), .int w1, .int w2], .tup [.tup [.str (tx "u"), .int (reck sz it (bk8 w0 w1 w2) e1)]], .tup [.tup [.str (tx "k"), .int (reck sz it (bk8 w0 w1 w2) e2)]],
      .tup (([.int (reck sz it (bk8 w0 w1 w2) e0)] ++ List.replicate (reck sz it (bk8 w0 w1 w2) e3).toNat (.int 1)) ++ [.int (if reck sz it (bk8 w0 w1 w2) e4 < reck sz it (bk8 w0 w1 w2) e5 then 1 else 0)])] := by
  have hr : resS sz it (stn8 e0 e1 e2 e3 e4 e5) [w0, w1, w2] (prog8 e0 e1 e2 e3 e4 e5) = ⟨bk8 (reck sz it (bk8 w0 w1 w2) e0) w1 w2, [(tx "u", reck sz it (bk8 w0 w1 w2) e1)], [(tx "k", some (reck sz it (bk8 w0 w1 w2) e2))],
      ([reck sz it (bk8 w0 w1 w2) e0] ++ List.replicate (reck sz it (bk8 w0 w1 w2) e3).toNat 1) ++ [if reck sz it (bk8 w0 w1 w2) e4 < reck sz it (bk8 w0 w1 w2) e5 then 1 else 0]⟩ := by
    show doB sz it 2 (prog8 e0 e1 e2 e3 e4 e5) ⟨bk8 w0 w1 w2, [], [], []⟩ = _
    rw [doB_eq]
    unfold prog8 itsD
    simp only [List.foldl_cons, List.foldl_nil]
    rw [doS_say, doS_send, doS_wait, doS_rep]
    show doS sz it _ _ (doS sz it _ _ (iter (doB sz it 1 (.tup [sayD 1])) _ _)) = _
    rw [iter_say, doS_if]
    have hc : condB sz it (bk8 w0 w1 w2) (.tup [.str (tx "<"), e4, e5]) = decide (reck sz it (bk8 w0 w1 w2) e4 < reck sz it (bk8 w0 w1 w2) e5) := by
      simp only [condB, if_neg (show ¬ tx "<" = tx "=" by decide +kernel)]
    simp only [hc]
    by_cases h : reck sz it (bk8 w0 w1 w2) e4 < reck sz it (bk8 w0 w1 w2) e5
    · simp only [decide_eq_true h, if_true, h]
      show doS sz it _ _ (doB sz it 1 (.tup [sayD 1]) _) = _
      rw [do_say, doS_set]
      simp only [strOf, put_m, List.nil_append]
      rfl
    · simp only [decide_eq_false h, if_false, h, Bool.false_eq_true]
      show doS sz it _ _ (doB sz it 1 (.tup [sayD 0]) _) = _
      rw [do_say, doS_set]
      simp only [strOf, put_m, List.nil_append]
      rfl
  rw [hr]
  unfold resD touch sentD saidD
  simp only [List.filterMap_cons, List.filterMap_nil, List.lookup_cons, beq_self_eq_true, Option.map_some, List.map_cons, List.map_nil, List.map_append, List.map_replicate, bk8, oD]
theorem res8b : resD (resS sz it (stn8 e0 e1 e2 e3 e4 e5) [w0, w1, w2] (after8 e1 e2)) [tx "k"] =
    .tup [.tup [.int w0, .int (reck sz it (bk8 w0 w1 w2) e1), .int w2], .tup [], .tup [],
      .tup [.int ((2 * reck sz it (bk8 w0 w1 w2) e1).fmod sz), .int (if reck sz it (bk8 w0 w1 w2) e1 = reck sz it (bk8 w0 (reck sz it (bk8 w0 w1 w2) e1) w2) e2 then 1 else 0)]] := by
  obtain ⟨v, hv⟩ : ∃ v, v = reck sz it (bk8 w0 w1 w2) e1 := ⟨_, rfl⟩
  have hr : resS sz it (stn8 e0 e1 e2 e3 e4 e5) [w0, w1, w2] (after8 e1 e2) = ⟨bk8 w0 v w2, [], [], [(2 * v).fmod sz, if v = reck sz it (bk8 w0 v w2) e2 then 1 else 0]⟩ := by
    show doB sz it 2 (after8 e1 e2) ⟨bk8 w0 w1 w2, [], [], []⟩ = _
    rw [doB_eq]
    unfold after8 itsD
    simp only [List.foldl_cons, List.foldl_nil]
    rw [doS_set, doS_say, doS_if]
    simp only [strOf, put_n, ← hv, List.nil_append]
    have hn : reck sz it (bk8 w0 v w2) (.str (tx "n")) = v := by
      rw [reck, if_neg (show ¬ tx "n" = tx "it" by decide +kernel), look_n]
      rfl
    have hs : reck sz it (bk8 w0 v w2) (.tup [.str (tx "+"), .str (tx "n"), .str (tx "n")]) = (2 * v).fmod sz := by
      rw [reck, hn]
      simp only [sgn, if_true]
      congr 1
      omega
    have hc : condB sz it (bk8 w0 v w2) (.tup [.str (tx "="), .str (tx "n"), e2]) = decide (v = reck sz it (bk8 w0 v w2) e2) := by
      simp only [condB, if_true, hn]
    rw [hc, hs]
    by_cases h : v = reck sz it (bk8 w0 v w2) e2
    · rw [decide_eq_true h, if_pos rfl, if_pos h]
      show doB sz it 1 (.tup [sayD 1]) _ = _
      rw [do_say]
      rfl
    · rw [decide_eq_false h, if_neg (by decide), if_neg h]
      show doB sz it 1 (.tup [sayD 0]) _ = _
      rw [do_say]
      rfl
  rw [hr, ← hv]
  unfold resD touch sentD saidD
  simp only [List.filterMap_cons, List.filterMap_nil, List.lookup_nil, Option.map_none, List.map_cons, List.map_nil, bk8]
end
end Lw
namespace Lw
open PySem PySem.Spec PyProof.Rows L2 Fa
local macro_rules | `(tactic| walk_at "ev") => `(tactic| simp only [bK_ok, bK_err, bK_bad, bnd_ap, ret_ap, fail_ap, mVar_ap, vK_some, mC_ap, m1_ap, m2_ap, k2_ap, mNil_ap, mCons_ap, kCons_ap, kCon_ap, mA_ap, mIf_ap, kIf_t, kIf_f, tOf_ap, isBl_ap, tNt_ap, kNt_ap, tAn_ap, kAn_t, kAn_f, tOr_ap, kOr_t, kOr_f, mNot_ap, kNot_ap, mAnd_ap, kAnd_t, kAnd_f, mOr_ap, kOrV_t, kOrV_f,
  sSeq_ap, sK_nx, sK_rt, sK_bk, sK_ct, sK_ex, sK_bad, oK_ok, oK_err, oK_bad, kNx_ap, kRt_ap, sEx_ap, sRet_ap, sRetN_ap, sNx_ap, sBad_ap, sIf_ap, kIfS_t, kIfS_f, gN_ap, gT_ap, gT_tt, gTc_ap, gT0_ap, sAs_ap, kAs_ap, kAs2_ok, sPar_ap, kPar_ap, gSubD_ap, kSub1_ap, kSub2_ap, kSub3_ap, fK_nx, fK_rt, fK_ex, mLM_ap, mRng1_ap, mRng2_ap, mSrc_ap, src_t, src_r, src_s, src_k,
  mChain_ap, kCh1_ap, kCh2_ap, kCh3_t, kCh3_f, mSl_ap, kSl1_ap, kSl2_ap, mSlT_ap, kTl1_ap, kTl2_ap, mP0_ap, mP_ap, intO_ap, sl_t, dfl_ap, mTM_ap, kTM_k, kTM_t, mMeth_ap, kMe1_ap, kMe2_ap, kMe3_ap, gFld_ap, kF1_ap, gSubA_ap, kSA1_ap, kSA2_ap, sPar3_ap, kPar3_ap, mkD_ap, mkR_ok, dct0D_ap, mDisp_ap, mPairs_nil, mPairs_cons, kPr1_ap, kPr2_ap, kPr3_ap, tuple_t, list_t, mZip_ap, zip_tt,
  wipeE, nc0, nc1, nc2, nc3, nc4, nc5, nc6, nc7, nc8, nc9, nc10, nc11, nc12, nc13, nc14, nc15, Int.reduceEq, Int.reduceLE, Int.reduceLT, Int.reduceSub, Int.reduceAdd,
  fnM_ap, tupD_ap, lstD_ap, le_line, Nat.reduceLeDiff, eq_self,
  add_ii, sub_ii, neg_i, lt_ii, le_ii, gt_ii, ge_ii, isN_n, isN_i, isN_t, isN_s, isN_b, isN_l, abs_i, max_ii, min_ii, int_i, int_b, len_t, len_r, eq_ii, eq_bb, eq_ss,
  List.map_cons, List.map_nil, List.cons_append, List.nil_append, List.append_nil, List.replicate_succ, List.replicate_zero, List.length_cons, List.length_nil, Nat.reduceSub, Nat.reduceAdd, Nat.sub_self, Nat.zero_add,
  List.getElem?_cons_succ, List.getElem?_cons_zero, List.set_cons_succ, List.set_cons_zero, Bool.not_true, Bool.not_false, decide_true, decide_false, if_true, if_false, reduceIte, Bool.false_eq_true])
theorem Grw.off {p n : Nat} {S T : Sto} {o : MO} (g : Grw p S T) (h : S.length ≤ n) : Grw p S (T.set n o) := ⟨by rw [List.length_set]; exact g.1, fun i h1 h2 => by
  rw [List.getElem?_set_ne (by omega)]
  exact g.2 i h1 h2⟩
theorem worths_q {S : Sto} {p c : Nat} {sz : Int} (hsz : 2 ≤ sz ∧ sz ≤ 6) (hp : Pot p S c) (hc : c ≤ 90000) :
    ∃ w0 w1 w2 T, mA tupleD (mCons (mLc (mRng1 (mCons (mC (.int 3)) mNil)) (gN 15) tT (mA (gq F_l_take) (mCons (mVar 0) (mCons (mVar 1) mNil))) [15]) mNil) [some (.loc p), some (.int sz), none, none, none, none, none, none, none, none, none, none, none, none, none, none, none] S = .ok (.tup [.int w0, .int w1, .int w2]) T
      ∧ (0 ≤ w0 ∧ w0 < sz) ∧ (0 ≤ w1 ∧ w1 < sz) ∧ (0 ≤ w2 ∧ w2 < sz) ∧ Pot p T (c + 3) ∧ Grw p S T := by
  have hpl := hp.lt
  have hm : mRng1 (mCons (mC (.int 3)) mNil) [some (.loc p), some (.int sz), none, none, none, none, none, none, none, none, none, none, none, none, none, none, none] S = .ok (.rng 0 3) S := rfl
  obtain ⟨ds, T, e1, e2, hl, hP, hG, hD⟩ := mLc_inv (g := gN 15) (e := mA (gq F_l_take) (mCons (mVar 0) (mCons (mVar 1) mNil))) (vs := [15]) 3 (fun i => .int (0 + (i : Int))) (fun i acc T => Pot p T (c + i) ∧ Grw p S T ∧ ∀ d ∈ acc, ∃ w : Int, d = .int w ∧ 0 ≤ w ∧ w < sz) hm rfl (fun i acc T _ => next_rng _ _ _ _)
    (fun i acc T hi hJ hT => by
      obtain ⟨hP, hG, hD⟩ := hJ
      obtain ⟨v, x, y, z, e, v0, v1, hP'⟩ := take_q (n := sz) hP (by omega) (by omega) (by omega)
      have hT' : (T.set p (il x y z))[S.length]? = some (.lst acc) := by
        rw [List.getElem?_set_ne (by omega)]
        exact hT
      refine ⟨_, T.set p (il x y z), .int v, rfl, ?_, hT', hP'.off (by omega), (hG.trans (Grw.set p T _)).off (Nat.le_refl _), fun d hd => ?_⟩
      · repeat (first | walk_at "ev" | simp only [e])
      · rcases List.mem_append.mp hd with hd | hd
        · exact hD d hd
        · simp at hd
          exact ⟨v, hd, v0, v1⟩) (le_line (by decide)) ⟨hp.app _, Grw.app p S _, fun d hd => nomatch hd⟩
  match ds, hl with
  | [a, b, d], _ =>
    obtain ⟨w0, rfl, r0⟩ := hD a (by simp)
    obtain ⟨w1, rfl, r1⟩ := hD b (by simp)
    obtain ⟨w2, rfl, r2⟩ := hD d (by simp)
    refine ⟨w0, w1, w2, T, ?_, r0, r1, r2, hP, hG⟩
    have t1 := tuple_l T e2
    repeat (first | walk_at "ev" | simp only [e1, t1])
theorem some_q {S : Sto} {p c : Nat} {sz it : Int} {h : Nat} {wt : D} (hsz : 2 ≤ sz ∧ sz ≤ 6) (hp : Pot p S c) (hc : c ≤ 90000) :
    ∃ es T, mLc (mRng1 (mCons (mC (.int 6)) mNil)) (gN 15) tT (mA (gq (F_l_sum 12)) (mCons (mVar 0) (mCons (mA lstD (mCons (mC (.str (tx "m"))) (mCons (mC (.str (tx "n"))) (mCons (mC (.str (tx "o"))) (mCons (mC (.str (tx "it"))) mNil))))) (mCons (mVar 1) (mCons (mC (.int 3)) mNil))))) [15] [some (.loc p), some (.int sz), some wt, some (.int it), some (.loc h), none, none, none, none, none, none, none, none, none, none, none, none] S = .ok (.loc S.length) T
      ∧ T[S.length]? = some (.lst es) ∧ es.length = 6 ∧ (∀ d ∈ es, exprP c3 sz 3 d = true ∧ okD [] d = true) ∧ Pot p T (c + 180) ∧ Grw p S T := by
  have hpl := hp.lt
  have hdn : dn 3 = 30 := rfl
  have hm : mRng1 (mCons (mC (.int 6)) mNil) [some (.loc p), some (.int sz), some wt, some (.int it), some (.loc h), none, none, none, none, none, none, none, none, none, none, none, none] S = .ok (.rng 0 6) S := rfl
  obtain ⟨ds, T, e1, e2, hl, hP, hG, hD⟩ := mLc_inv (g := gN 15) (e := mA (gq (F_l_sum 12)) (mCons (mVar 0) (mCons (mA lstD (mCons (mC (.str (tx "m"))) (mCons (mC (.str (tx "n"))) (mCons (mC (.str (tx "o"))) (mCons (mC (.str (tx "it"))) mNil))))) (mCons (mVar 1) (mCons (mC (.int 3)) mNil))))) (vs := [15]) 6 (fun i => .int (0 + (i : Int)))
    (fun i acc T => Pot p T (c + 30 * i) ∧ Grw p S T ∧ ∀ d ∈ acc, exprP c3 sz 3 d = true ∧ okD [] d = true) hm rfl (fun i acc T _ => next_rng _ _ _ _)
    (fun i acc T hi hJ hT => by
      obtain ⟨hP, hG, hD⟩ := hJ
      obtain ⟨U, hU⟩ : ∃ U, U = T ++ [.lst names4] := ⟨_, rfl⟩
      have hPU : Pot p U (c + 30 * i) := by rw [hU]; exact hP.app _
      have hlt := at_lt hT
      have hTl : S.length ≤ T.length := hG.1
      obtain ⟨e, x, y, z, e3, he1, he2, hP'⟩ := sum_q hsz 3 12 (by decide) hPU (by omega) (show U[T.length]? = some (.lst names4) by rw [hU]; exact at_end _ _) (by omega)
      rw [nc3] at e3
      have hT' : (U.set p (il x y z))[S.length]? = some (.lst acc) := by
        rw [List.getElem?_set_ne (by omega), hU]
        exact at_old hT
      have hU' : T ++ [MO.lst [.str (tx "m"), .str (tx "n"), .str (tx "o"), .str (tx "it")]] = U := by rw [hU]; rfl
      refine ⟨_, U.set p (il x y z), e, rfl, ?_, hT', (hP'.mono (by omega)).off (by omega), (hG.trans ((show Grw p T U by rw [hU]; exact Grw.app p T _).trans (Grw.set p U _))).off (Nat.le_refl _), fun d hd => ?_⟩
      · repeat (first | simp only [hU', e3] | walk_at "ev")
      · rcases List.mem_append.mp hd with hd | hd
        · exact hD d hd
        · simp at hd
          subst hd
          exact ⟨he1, he2⟩) (le_line (by decide)) ⟨hp.app _, Grw.app p S _, fun d hd => nomatch hd⟩
  exact ⟨ds, T, e1, e2, hl, hD, hP, hG⟩
theorem mul_rep {k : Int} (h0 : 0 ≤ k) (h1 : k ≤ 5) (S : Sto) : mulB (.tup [.int 1]) (.int k) S = .ok (.tup (List.replicate k.toNat (.int 1))) S := by
  have : k = 0 ∨ k = 1 ∨ k = 2 ∨ k = 3 ∨ k = 4 ∨ k = 5 := by omega
  rcases this with rfl | rfl | rfl | rfl | rfl | rfl <;> rfl
def hd8 (w0 w1 w2 it : Int) : Bk := [(tx "m", w0), (tx "n", w1), (tx "o", w2), (tx "it", it)]
theorem hd8_look {w0 w1 w2 it : Int} : (∀ z ∈ c3, (hd8 w0 w1 w2 it).lookup z = (bk8 w0 w1 w2).lookup z) ∧ (hd8 w0 w1 w2 it).lookup (tx "it") = some it := by
  constructor
  · intro z hz
    have : z = tx "m" ∨ z = tx "n" ∨ z = tx "o" := by simpa [c3] using hz
    have a1 : (tx "n" == tx "m") = false := by decide +kernel
    have a2 : (tx "o" == tx "m") = false := by decide +kernel
    have a3 : (tx "o" == tx "n") = false := by decide +kernel
    unfold hd8 bk8
    rcases this with rfl | rfl | rfl
    · simp only [List.lookup_cons, beq_self_eq_true]
    · simp only [List.lookup_cons, a1, beq_self_eq_true]
    · simp only [List.lookup_cons, a2, a3, beq_self_eq_true]
  · have a1 : (tx "it" == tx "m") = false := by decide +kernel
    have a2 : (tx "it" == tx "n") = false := by decide +kernel
    have a3 : (tx "it" == tx "o") = false := by decide +kernel
    unfold hd8
    simp only [List.lookup_cons, a1, a2, a3, beq_self_eq_true]
theorem hd8_ok {w0 w1 w2 it sz : Int} (hsz : sz ≤ 6) (h0 : 0 ≤ w0 ∧ w0 < sz) (h1 : 0 ≤ w1 ∧ w1 < sz) (h2 : 0 ≤ w2 ∧ w2 < sz) (h3 : 0 ≤ it ∧ it < sz) : HdOk (hd8 w0 w1 w2 it) := by
  intro z hz
  have hk : z ∈ (hd8 w0 w1 w2 it).map (·.1) := by
    have : z = tx "it" ∨ z = tx "m" ∨ z = tx "n" ∨ z = tx "o" := by simpa [c3] using hz
    unfold hd8
    rcases this with rfl | rfl | rfl | rfl <;> simp
  obtain ⟨v, e1, e2⟩ := lk_mem hk
  refine ⟨v, e1, ?_⟩
  unfold hd8 at e2
  simp only [List.mem_cons, List.not_mem_nil, or_false, Prod.mk.injEq] at e2
  rcases e2 with ⟨_, rfl⟩ | ⟨_, rfl⟩ | ⟨_, rfl⟩ | ⟨_, rfl⟩ <;> omega
theorem disp8 {S : Sto} {w0 w1 w2 it : Int} {r : Fa.Env} (h2 : r[2]? = some (some (.tup [.int w0, .int w1, .int w2]))) (h3 : r[3]? = some (some (.int it))) :
    mDisp (((mC (.str (tx "m"))), (m2 ixD (mVar 2) (mC (.int 0)))) :: ((mC (.str (tx "n"))), (m2 ixD (mVar 2) (mC (.int 1)))) :: ((mC (.str (tx "o"))), (m2 ixD (mVar 2) (mC (.int 2)))) :: ((mC (.str (tx "it"))), (mVar 3)) :: []) r S = .ok (.loc S.length) (S ++ [.dct (bkD (hd8 w0 w1 w2 it))]) := by
  have x0 : ∀ S, ixD (.tup [.int w0, .int w1, .int w2]) (.int 0) S = .ok (.int w0) S := fun S => ix_t S rfl
  have x1 : ∀ S, ixD (.tup [.int w0, .int w1, .int w2]) (.int 1) S = .ok (.int w1) S := fun S => ix_t S rfl
  have x2 : ∀ S, ixD (.tup [.int w0, .int w1, .int w2]) (.int 2) S = .ok (.int w2) S := fun S => ix_t S rfl
  obtain ⟨kvs, hkvs⟩ : ∃ kvs, kvs = bkD (hd8 w0 w1 w2 it) := ⟨_, rfl⟩
  have hkp : keyP [(.str (tx "m"), .int w0), (.str (tx "n"), .int w1), (.str (tx "o"), .int w2), (.str (tx "it"), .int it)] = some kvs := by rw [hkvs]; rfl
  have hmd : mergeD [] kvs = kvs := by
    have hk : kvs.map (·.1) = [Sum.inr (tx "m"), Sum.inr (tx "n"), Sum.inr (tx "o"), Sum.inr (tx "it")] := by rw [hkvs]; rfl
    exact putsKV_nodup (by rw [hk]; decide +kernel)
  have hd := dsp_ok (S ++ [.dct []]) (n := S.length) (at_end _ _) hkp (by rw [hkvs]; exact Nat.le_of_ble_eq_true rfl)
  rw [hmd, set_end, hkvs] at hd
  repeat (first | walk_at "ev" | simp only [h2, h3, x0, x1, x2, hd])
end Lw
namespace Lw
open PySem PySem.Spec PyProof.Rows L2 Fa
local macro_rules | `(tactic| walk_at "ev") => `(tactic| simp only [bK_ok, bK_err, bK_bad, bnd_ap, ret_ap, fail_ap, mVar_ap, vK_some, mC_ap, m1_ap, m2_ap, k2_ap, mNil_ap, mCons_ap, kCons_ap, kCon_ap, mA_ap, mIf_ap, kIf_t, kIf_f, tOf_ap, isBl_ap, tNt_ap, kNt_ap, tAn_ap, kAn_t, kAn_f, tOr_ap, kOr_t, kOr_f, mNot_ap, kNot_ap, mAnd_ap, kAnd_t, kAnd_f, mOr_ap, kOrV_t, kOrV_f,
  sSeq_ap, sK_nx, sK_rt, sK_bk, sK_ct, sK_ex, sK_bad, oK_ok, oK_err, oK_bad, kNx_ap, kRt_ap, sEx_ap, sRet_ap, sRetN_ap, sNx_ap, sBad_ap, sIf_ap, kIfS_t, kIfS_f, gN_ap, gT_ap, gT_tt, gTc_ap, gT0_ap, sAs_ap, kAs_ap, kAs2_ok, sPar_ap, kPar_ap, gSubD_ap, kSub1_ap, kSub2_ap, kSub3_ap, fK_nx, fK_rt, fK_ex, mLM_ap, mRng1_ap, mRng2_ap, mSrc_ap, src_t, src_r, src_s, src_k,
  mChain_ap, kCh1_ap, kCh2_ap, kCh3_t, kCh3_f, mSl_ap, kSl1_ap, kSl2_ap, mSlT_ap, kTl1_ap, kTl2_ap, mP0_ap, mP_ap, intO_ap, sl_t, dfl_ap, mTM_ap, kTM_k, kTM_t, mMeth_ap, kMe1_ap, kMe2_ap, kMe3_ap, gFld_ap, kF1_ap, gSubA_ap, kSA1_ap, kSA2_ap, sPar3_ap, kPar3_ap, mkD_ap, mkR_ok, dct0D_ap, mDisp_ap, mPairs_nil, mPairs_cons, kPr1_ap, kPr2_ap, kPr3_ap, tuple_t, list_t, mZip_ap, zip_tt,
  wipeE, nc0, nc1, nc2, nc3, nc4, nc5, nc6, nc7, nc8, nc9, nc10, nc11, nc12, nc13, nc14, nc15, Int.reduceEq, Int.reduceLE, Int.reduceLT, Int.reduceSub, Int.reduceAdd,
  fnM_ap, tupD_ap, lstD_ap, le_line, Nat.reduceLeDiff, eq_self,
  add_ii, sub_ii, neg_i, lt_ii, le_ii, gt_ii, ge_ii, isN_n, isN_i, isN_t, isN_s, isN_b, isN_l, abs_i, max_ii, min_ii, int_i, int_b, len_t, len_r, eq_ii, eq_bb, eq_ss,
  List.map_cons, List.map_nil, List.cons_append, List.nil_append, List.append_nil, List.replicate_succ, List.replicate_zero, List.length_cons, List.length_nil, Nat.reduceSub, Nat.reduceAdd, Nat.sub_self, Nat.zero_add,
  List.getElem?_cons_succ, List.getElem?_cons_zero, List.set_cons_succ, List.set_cons_zero, Bool.not_true, Bool.not_false, decide_true, decide_false, if_true, if_false, reduceIte, Bool.false_eq_true])
theorem add_t1000 (xs ys : List D) (S : Sto) (h : xs.length + ys.length ≤ 1000) : addD (.tup xs) (.tup ys) S = .ok (.tup (xs ++ ys)) S := add_tt S xs ys (le_line h)
theorem rg_t {n : Nat} {ds : List D} (h : rGs n ds = true) : rG (n + 1) (.tup ds) = true := by simpa [rG] using h
theorem rg_c {n : Nat} {d : D} {ds : List D} (h : rG n d = true) (h2 : rGs n ds = true) : rGs n (d :: ds) = true := by
  simp only [rGs, h, h2, Bool.and_self]
theorem rg_s {n : Nat} {x : Str} (h : strG x = true) : rG n (.str x) = true := by cases n <;> simpa [rG] using h
theorem fK_of {o : Out} {T : Sto} {d : D} (h : o = .rt d T) : fK o = .ok d T := by
  rw [h]
  rfl
theorem repr8 {d0 d1 d2 w1 w2 : Int} {sd : List Int} (h0 : 0 ≤ d0 ∧ d0 < 6) (h1 : 0 ≤ d1 ∧ d1 < 6) (h2 : 0 ≤ d2 ∧ d2 < 6) (g1 : 0 ≤ w1 ∧ w1 < 6) (g2 : 0 ≤ w2 ∧ w2 < 6) (hs : ∀ x ∈ sd, 0 ≤ x ∧ x < 6) (hl : sd.length ≤ 1000) (x : D) (hx : x = .tup [.tup [.int d0, .int w1, .int w2], .tup [.tup [.str (tx "u"), .int d1]], .tup [.tup [.str (tx "k"), .int d2]], .tup (sd.map D.int)]) (S : Sto) : ∃ z, reprD [x] S = .ok (.str z) S := by
  subst hx
  have hi : ∀ (x : Int) n, 0 ≤ x ∧ x < 6 → rG n (.int x) = true := fun x n h => by
    cases n <;> simp only [rG, Bool.and_eq_true, decide_eq_true_eq] <;> omega
  have hu : strG (tx "u") = true := by decide +kernel
  have hk : strG (tx "k") = true := by decide +kernel
  have hsd : rGs 28 (sd.map D.int) = true := rGs_iff.mpr fun d hd => by
    obtain ⟨x, hx, rfl⟩ := List.mem_map.mp hd
    exact hi x _ (hs x hx)
  have hw : rWs (sd.map D.int) ≤ (11 + 2) * (sd.map D.int).length := rWs_le fun d hd => by
    obtain ⟨x, _, rfl⟩ := List.mem_map.mp hd
    exact Nat.le_refl 11
  rw [List.length_map] at hw
  have hlu : (tx "u").length = 1 := by decide +kernel
  have hlk : (tx "k").length = 1 := by decide +kernel
  refine ⟨_, repr_ok ?_ ?_ S⟩
  · exact rg_t (rg_c (rg_t (rg_c (hi _ _ h0) (rg_c (hi _ _ g1) (rg_c (hi _ _ g2) rfl)))) (rg_c (rg_t (rg_c (rg_t (rg_c (rg_s hu) (rg_c (hi _ _ h1) rfl))) rfl)) (rg_c (rg_t (rg_c (rg_t (rg_c (rg_s hk) (rg_c (hi _ _ h2) rfl))) rfl)) (rg_c (rg_t hsd) rfl))))
  · simp only [rWd, rWs, hlu, hlk]
    omega
theorem repr8b {a b c d e : Int} (h0 : 0 ≤ a ∧ a < 6) (h1 : 0 ≤ b ∧ b < 6) (h2 : 0 ≤ c ∧ c < 6) (g1 : 0 ≤ d ∧ d < 6) (g2 : 0 ≤ e ∧ e < 6) (S : Sto) : ∃ z, reprD [.tup [.tup [.int a, .int b, .int c], .tup [], .tup [], .tup [.int d, .int e]]] S = .ok (.str z) S := by
  have hi : ∀ (x : Int) n, 0 ≤ x ∧ x < 6 → rG n (.int x) = true := fun x n h => by
    cases n <;> simp only [rG, Bool.and_eq_true, decide_eq_true_eq] <;> omega
  refine ⟨_, repr_ok ?_ ?_ S⟩
  · exact rg_t (rg_c (rg_t (rg_c (hi _ _ h0) (rg_c (hi _ _ h1) (rg_c (hi _ _ h2) rfl)))) (rg_c (rg_t rfl) (rg_c (rg_t rfl) (rg_c (rg_t (rg_c (hi _ _ g1) (rg_c (hi _ _ g2) rfl))) rfl))))
  · simp only [rWd, rWs]
    omega
theorem right_q {S : Sto} {p c : Nat} (hp : Pot p S c) (hc : c ≤ 80000) : ∃ T, F_l_right [.loc p] S = .ok (.bl true) T ∧ Grw p S T ∧ Pot p T (c + 200) := by
  have hpl := hp.lt
  obtain ⟨v, a1, a2, a3, q1, v0, v1, p1⟩ := take_q (n := 5) hp (by omega) (by decide) (by decide)
  obtain ⟨S1, hS1⟩ : ∃ S1, S1 = S.set p (il a1 a2 a3) := ⟨_, rfl⟩
  rw [← hS1] at q1 p1
  have g1 : Grw p S S1 := by rw [hS1]; exact Grw.set p S _
  obtain ⟨sz, hsd⟩ : ∃ sz : Int, sz = 2 + v := ⟨_, rfl⟩
  have hsz : 2 ≤ sz ∧ sz ≤ 6 := by omega
  obtain ⟨w0, w1, w2, S2, q2, r0, r1, r2, p2, g2⟩ := worths_q hsz p1 (by omega)
  obtain ⟨it, b1, b2, b3, q3, i0, i1, p3⟩ := take_q (n := sz) p2 (by omega) (by omega) (by omega)
  obtain ⟨S3, hS3⟩ : ∃ S3, S3 = S2.set p (il b1 b2 b3) := ⟨_, rfl⟩
  rw [← hS3] at q3 p3
  have g3 : Grw p S2 S3 := by rw [hS3]; exact Grw.set p S2 _
  obtain ⟨S4, hS4⟩ : ∃ S4, S4 = S3 ++ [.dct (bkD (hd8 w0 w1 w2 it))] := ⟨_, rfl⟩
  have p4 : Pot p S4 (c + 1 + 3 + 1) := by rw [hS4]; exact p3.app _
  have g4 : Grw p S3 S4 := by rw [hS4]; exact Grw.app p S3 _
  have d4 : S4[S3.length]? = some (.dct (bkD (hd8 w0 w1 w2 it))) := by rw [hS4]; exact at_end _ _
  have l3 : S.length ≤ S3.length := Nat.le_trans g1.1 (Nat.le_trans g2.1 g3.1)
  obtain ⟨es, S5, q5, s5, hes, hE, p5, g5⟩ := some_q (it := it) (h := S3.length) (wt := .tup [.int w0, .int w1, .int w2]) hsz p4 (by omega)
  have d5 : S5[S3.length]? = some (.dct (bkD (hd8 w0 w1 w2 it))) := g5.at (by omega) d4
  have wo : Wo sz it (bk8 w0 w1 w2) := ⟨hsz.1, hsz.2, i0, i1, fun q hq => by
    simp only [bk8, List.mem_cons, List.not_mem_nil, or_false] at hq
    rcases hq with rfl | rfl | rfl
    · exact r0
    · exact r1
    · exact r2⟩
  have hh := hd8_ok hsz.2 r0 r1 r2 ⟨i0, i1⟩
  have hlk := hd8_look (w0 := w0) (w1 := w1) (w2 := w2) (it := it)
  have md : ∀ (x : Int) (S : Sto), modD (.int x) (.int sz) S = .ok (.int (x.fmod sz)) S := fun x S => mod_ii _ _ _ (decide_eq_true (by omega))
  have rk : ∀ e ∈ es, (plain (hd8 w0 w1 w2 it) e).fmod sz = reck sz it (bk8 w0 w1 w2) e ∧ 0 ≤ reck sz it (bk8 w0 w1 w2) e ∧ reck sz it (bk8 w0 w1 w2) e < sz := fun e he => by
    have h1 := (hE e he).1
    exact ⟨plain_reck wo rfl hlk.1 hlk.2 3 h1, reck_in wo h1⟩
  have q6 : mLc (mSrc (mVar 5)) (gN 16) tT (m2 modD (mA intD (mCons (mA (gq (F_l_plain 12)) (mCons (mVar 16) (mCons (mVar 4) mNil))) mNil)) (mVar 1)) [16] [some (.loc p), some (.int sz), some (.tup [.int w0, .int w1, .int w2]), some (.int it), some (.loc S3.length), some (.loc S4.length), none, none, none, none, none, none, none, none, none, none, none] S5 = .ok (.loc S5.length) (S5 ++ [.lst (es.map fun e => .int (reck sz it (bk8 w0 w1 w2) e))]) := by
    refine mLc_map (S0 := S5) (src := .lst S4.length) es (fun e => .int (reck sz it (bk8 w0 w1 w2) e)) (by repeat (first | walk_at "ev" | rw [src_l s5])) (turns_lst s5) (fun l i => next_lst (at_old s5)) (fun e he l => ?_) (le_line (by omega))
    obtain ⟨z1, _⟩ := plain_q hh hsz 3 12 (by decide) (by decide) (okD_nil (hE e he).2 (S5 ++ l)) (hE e he).1 (at_old d5)
    refine ⟨_, rfl, ?_⟩
    repeat (first | walk_at "ev" | simp only [z1, md, (rk e he).1])
  match es, hes with
  | [e0, e1, e2, e3, e4, e5], _ =>
  have E : Es sz e0 e1 e2 e3 e4 e5 := ⟨hE e0 (by simp), hE e1 (by simp), hE e2 (by simp), hE e3 (by simp), hE e4 (by simp), hE e5 (by simp)⟩
  have t0 := (rk e0 (by simp)).2
  have t1 := (rk e1 (by simp)).2
  have t2 := (rk e2 (by simp)).2
  have t3 := (rk e3 (by simp)).2
  have t4 := (rk e4 (by simp)).2
  have t5 := (rk e5 (by simp)).2
  have u2 := (E.h2).1
  obtain ⟨d0, hd0⟩ : ∃ x, x = reck sz it (bk8 w0 w1 w2) e0 := ⟨_, rfl⟩
  obtain ⟨d1, hd1⟩ : ∃ x, x = reck sz it (bk8 w0 w1 w2) e1 := ⟨_, rfl⟩
  obtain ⟨d2, hd2⟩ : ∃ x, x = reck sz it (bk8 w0 w1 w2) e2 := ⟨_, rfl⟩
  obtain ⟨d3, hd3⟩ : ∃ x, x = reck sz it (bk8 w0 w1 w2) e3 := ⟨_, rfl⟩
  obtain ⟨d4', hd4⟩ : ∃ x, x = reck sz it (bk8 w0 w1 w2) e4 := ⟨_, rfl⟩
  obtain ⟨d5', hd5⟩ : ∃ x, x = reck sz it (bk8 w0 w1 w2) e5 := ⟨_, rfl⟩
  rw [List.map_cons, List.map_cons, List.map_cons, List.map_cons, List.map_cons, List.map_cons, List.map_nil, ← hd0, ← hd1, ← hd2, ← hd3, ← hd4, ← hd5] at q6
  rw [← hd0] at t0
  rw [← hd1] at t1
  rw [← hd2] at t2
  rw [← hd3] at t3
  rw [← hd4] at t4
  rw [← hd5] at t5
  obtain ⟨S6, hS6⟩ : ∃ S6, S6 = S5 ++ [.lst [.int d0, .int d1, .int d2, .int d3, .int d4', .int d5']] := ⟨_, rfl⟩
  rw [← hS6] at q6
  have s6 : S6[S4.length]? = some (.lst [e0, e1, e2, e3, e4, e5]) := by rw [hS6]; exact at_old s5
  have s6' : S6[S5.length]? = some (.lst [.int d0, .int d1, .int d2, .int d3, .int d4', .int d5']) := by rw [hS6]; exact at_end _ _
  have d6 : S6[S3.length]? = some (.dct (bkD (hd8 w0 w1 w2 it))) := by rw [hS6]; exact at_old d5
  have p6 : Pot p S6 (c + 1 + 3 + 1 + 180) := by rw [hS6]; exact p5.app _
  have g6 : Grw p S5 S6 := by rw [hS6]; exact Grw.app p S5 _
  have x0 : ixD (.loc S4.length) (.int 0) S6 = .ok e0 S6 := ix_l _ s6 rfl
  have x1 : ixD (.loc S4.length) (.int 1) S6 = .ok e1 S6 := ix_l _ s6 rfl
  have x2 : ixD (.loc S4.length) (.int 2) S6 = .ok e2 S6 := ix_l _ s6 rfl
  have x3 : ixD (.loc S4.length) (.int 3) S6 = .ok e3 S6 := ix_l _ s6 rfl
  have x4 : ixD (.loc S4.length) (.int 4) S6 = .ok e4 S6 := ix_l _ s6 rfl
  have x5 : ixD (.loc S4.length) (.int 5) S6 = .ok e5 S6 := ix_l _ s6 rfl
  have y0 : ixD (.loc S5.length) (.int 0) S6 = .ok (.int d0) S6 := ix_l _ s6' rfl
  have y1 : ixD (.loc S5.length) (.int 1) S6 = .ok (.int d1) S6 := ix_l _ s6' rfl
  have y2 : ixD (.loc S5.length) (.int 2) S6 = .ok (.int d2) S6 := ix_l _ s6' rfl
  have y3 : ixD (.loc S5.length) (.int 3) S6 = .ok (.int d3) S6 := ix_l _ s6' rfl
  have y4 : ixD (.loc S5.length) (.int 4) S6 = .ok (.int d4') S6 := ix_l _ s6' rfl
  have y5 : ixD (.loc S5.length) (.int 5) S6 = .ok (.int d5') S6 := ix_l _ s6' rfl
  obtain ⟨m, hm⟩ : ∃ m, m = mdl8 e0 e1 e2 e3 e4 e5 sz := ⟨_, rfl⟩
  have mok : MdlOk m := by rw [hm]; exact mdl8_ok hsz E
  have mod' : okD [] m.d = true := by rw [hm]; exact mdl8_okD E
  have mat : atN m.ss (.str (tx "st")) = some (stn8 e0 e1 e2 e3 e4 e5) := by rw [hm]; exact at8
  have msz : m.sz = sz := by rw [hm]; rfl
  have hws : ∀ w ∈ [w0, w1, w2], 0 ≤ w ∧ w < m.sz := fun w hw => by
    rw [msz]
    simp only [List.mem_cons, List.not_mem_nil, or_false] at hw
    rcases hw with rfl | rfl | rfl
    · exact r0
    · exact r1
    · exact r2
  have hx : ¬ tx "x" ∈ [tx "k"] := by decide +kernel
  have hy : ¬ tx "y" ∈ [tx "k"] := by decide +kernel
  have qx := fun S => handled_q (S := S) (h := tx "x") (k := 1) (b := prog8 e0 e1 e2 e3 e4 e5) (it := it) mok mod' mat (ws := [w0, w1, w2]) rfl hws (show seek (tx "x") [tx "k", tx "x", tx "y"] = some 1 by decide +kernel) rfl (by rw [msz]; show if tx "x" ∈ [tx "k"] then _ else _; rw [if_neg hx]; exact ⟨i0, i1⟩)
  have qy := fun S => handled_q (S := S) (h := tx "y") (k := 2) (b := after8 e1 e2) (it := it) mok mod' mat (ws := [w0, w1, w2]) rfl hws (show seek (tx "y") [tx "k", tx "x", tx "y"] = some 2 by decide +kernel) rfl (by rw [msz]; show if tx "y" ∈ [tx "k"] then _ else _; rw [if_neg hy]; exact ⟨i0, i1⟩)
  rw [msz] at qx qy
  have qx : ∀ S, gq F_handled [m.d, .str (tx "st"), .tup [.int w0, .int w1, .int w2], .str (tx "x"), .int it] S = .ok (resD (resS sz it (stn8 e0 e1 e2 e3 e4 e5) [w0, w1, w2] (prog8 e0 e1 e2 e3 e4 e5)) [tx "k"]) S := qx
  have qy : ∀ S, gq F_handled [m.d, .str (tx "st"), .tup [.int w0, .int w1, .int w2], .str (tx "y"), .int it] S = .ok (resD (resS sz it (stn8 e0 e1 e2 e3 e4 e5) [w0, w1, w2] (after8 e1 e2)) [tx "k"]) S := qy
  simp only [res8, ← hd0, ← hd1, ← hd2, ← hd3, ← hd4, ← hd5] at qx
  simp only [res8b, ← hd1] at qy
  obtain ⟨tf, htf⟩ : ∃ tf : Int, tf = if d4' < d5' then 1 else 0 := ⟨_, rfl⟩
  rw [← htf] at qx
  have htf2 : 0 ≤ tf ∧ tf < 6 := by rw [htf]; split <;> omega
  obtain ⟨said, hsaid⟩ : ∃ said : List D, said = ([.int d0] ++ List.replicate d3.toNat (.int 1)) ++ [.int tf] := ⟨_, rfl⟩
  rw [← hsaid] at qx
  obtain ⟨told, htold⟩ : ∃ told : D, told = .tup [.tup [.int d0, .int w1, .int w2], .tup [.tup [.str (tx "u"), .int d1]], .tup [.tup [.str (tx "k"), .int d2]], .tup said] := ⟨_, rfl⟩
  rw [← htold] at qx
  obtain ⟨z1, rp1⟩ := repr8 (d0 := d0) (d1 := d1) (d2 := d2) (w1 := w1) (w2 := w2) (sd := ([d0] ++ List.replicate d3.toNat 1) ++ [tf]) (by omega) (by omega) (by omega) (by omega) (by omega) (fun x hx => by
    simp only [List.mem_append, List.mem_cons, List.not_mem_nil, or_false, List.mem_replicate] at hx
    rcases hx with (rfl | ⟨_, rfl⟩) | rfl
    · omega
    · omega
    · exact htf2) (by simp only [List.length_append, List.length_replicate, List.length_cons, List.length_nil]; omega) told (by rw [htold, hsaid]; simp only [List.map_append, List.map_cons, List.map_nil, List.map_replicate]) S6
  -- behind the set
  obtain ⟨S7, hS7⟩ : ∃ S7, S7 = S6.set S3.length (.dct (bkD (hd8 w0 d1 w2 it))) := ⟨_, rfl⟩
  have hput : putKD (bkD (hd8 w0 w1 w2 it)) (Sum.inr (tx "n")) (.int d1) = bkD (hd8 w0 d1 w2 it) := by
    refine (putS_D D.int (hd8 w0 w1 w2 it) (tx "n") d1).trans ?_
    show bkD (putS (hd8 w0 w1 w2 it) (tx "n") d1) = bkD _
    have : putS (hd8 w0 w1 w2 it) (tx "n") d1 = hd8 w0 d1 w2 it := by
      unfold hd8 putS
      rw [if_pos (by simp), List.map_cons, List.map_cons, List.map_cons, List.map_cons, List.map_nil, if_neg (show ¬ tx "m" = tx "n" by decide +kernel), if_pos rfl, if_neg (show ¬ tx "o" = tx "n" by decide +kernel), if_neg (show ¬ tx "it" = tx "n" by decide +kernel)]
    rw [this]
  have sA : setA (.loc S3.length) (.str (tx "n")) (.int d1) S6 = .ok () S7 := by
    rw [setA_d S6 _ d6 (key := Sum.inr (tx "n")) rfl (le_line (n := 5) (by decide)), hput, hS7]
  have n7 : ∀ i, i ≠ S3.length → S7[i]? = S6[i]? := fun i hi => by rw [hS7]; exact List.getElem?_set_ne (Ne.symm hi)
  have d7 : S7[S3.length]? = some (.dct (bkD (hd8 w0 d1 w2 it))) := by rw [hS7]; exact List.getElem?_set_self (at_lt d6)
  have l4 : S4.length = S3.length + 1 := by rw [hS4]; simp
  have l5 := g5.1
  have v7 : S7[S4.length]? = some (.lst [e0, e1, e2, e3, e4, e5]) := (n7 _ (by omega)).trans s6
  have v7' : S7[S5.length]? = some (.lst [.int d0, .int d1, .int d2, .int d3, .int d4', .int d5']) := (n7 _ (by omega)).trans s6'
  have x27 : ixD (.loc S4.length) (.int 2) S7 = .ok e2 S7 := ix_l _ v7 rfl
  have y17 : ixD (.loc S5.length) (.int 1) S7 = .ok (.int d1) S7 := ix_l _ v7' rfl
  have wo7 : Wo sz it (bk8 w0 d1 w2) := ⟨hsz.1, hsz.2, i0, i1, fun q hq => by
    simp only [bk8, List.mem_cons, List.not_mem_nil, or_false] at hq
    rcases hq with rfl | rfl | rfl
    · exact r0
    · exact t1
    · exact r2⟩
  have hlk7 := hd8_look (w0 := w0) (w1 := d1) (w2 := w2) (it := it)
  obtain ⟨pl7, _⟩ := plain_q (hd8_ok hsz.2 r0 t1 r2 ⟨i0, i1⟩) hsz 3 12 (by decide) (by decide) (okD_nil E.h2.2 S7) u2 d7
  have pr7 := plain_reck wo7 rfl hlk7.1 hlk7.2 3 u2
  have rk7 := reck_in wo7 u2
  obtain ⟨d27, hd27⟩ : ∃ x, x = reck sz it (bk8 w0 d1 w2) e2 := ⟨_, rfl⟩
  rw [← hd27] at pr7 rk7 qy
  obtain ⟨te, hte⟩ : ∃ te : Int, te = if d1 = d27 then 1 else 0 := ⟨_, rfl⟩
  rw [← hte] at qy
  have hte2 : 0 ≤ te ∧ te < 6 := by rw [hte]; split <;> omega
  have f2 := sz_fmod hsz.1 (2 * d1)
  obtain ⟨z2, rp2⟩ := repr8b (a := w0) (b := d1) (c := w2) (d := (2 * d1).fmod sz) (e := te) (by omega) (by omega) (by omega) (by omega) hte2 S7
  have ml2 : mulB (.int 2) (.int d1) S7 = .ok (.int (2 * d1)) S7 := mulB_ii _ _ _ (by
    unfold mulC
    rfl)
  have mr := mul_rep (k := d3) (by omega) (by omega) S6
  have ad1 : addD (.tup [.int d0]) (.tup (List.replicate d3.toNat (.int 1))) S6 = .ok (.tup (.int d0 :: List.replicate d3.toNat (.int 1))) S6 := add_t1000 _ _ _ (by simp only [List.length_replicate, List.length_cons, List.length_nil]; omega)
  have ad2 : addD (.tup (.int d0 :: List.replicate d3.toNat (.int 1))) (.tup [.int tf]) S6 = .ok (.tup said) S6 := by
    rw [hsaid]
    exact add_t1000 _ _ _ (by simp only [List.length_replicate, List.length_cons, List.length_nil]; omega)
  have cut : cutD [.int w0, .int w1, .int w2] (some 1) none = [.int w1, .int w2] := rfl
  have wx0 : ∀ S, ixD (.tup [.int w0, .int w1, .int w2]) (.int 0) S = .ok (.int w0) S := fun S => ix_t S rfl
  have wx2 : ∀ S, ixD (.tup [.int w0, .int w1, .int w2]) (.int 2) S = .ok (.int w2) S := fun S => ix_t S rfl
  have dl : (if decide (d4' < d5') = true then (1 : Int) else 0) = tf := by rw [htf]; simp only [decide_eq_true_eq]
  have de : (if decide (d1 = d27) = true then (1 : Int) else 0) = te := by rw [hte]; simp only [decide_eq_true_eq]
  refine ⟨S7, ?_, ?_, ?_⟩
  · unfold F_l_right
    rw [fnM_ap _ _ _ _ _ (by rfl)]
    refine fK_of ?_
    refine seq1 (r1 := [some (.loc p), some (.int sz), none, none, none, none, none, none, none, none, none, none, none, none, none, none, none]) (S1 := S1) (by (repeat (first | walk_at "ev" | simp only [q1, ← hsd]))) ?_
    refine seq1 (r1 := [some (.loc p), some (.int sz), some (.tup [.int w0, .int w1, .int w2]), none, none, none, none, none, none, none, none, none, none, none, none, none, none]) (S1 := S2) (by rw [sAs_ap, q2]; rfl) ?_
    refine seq1 (r1 := [some (.loc p), some (.int sz), some (.tup [.int w0, .int w1, .int w2]), some (.int it), none, none, none, none, none, none, none, none, none, none, none, none, none]) (S1 := S3) (by (repeat (first | walk_at "ev" | simp only [q3]))) ?_
    refine seq1 (r1 := [some (.loc p), some (.int sz), some (.tup [.int w0, .int w1, .int w2]), some (.int it), some (.loc S3.length), none, none, none, none, none, none, none, none, none, none, none, none]) (S1 := S4) (by rw [sAs_ap, disp8 rfl rfl, ← hS4]; rfl) ?_
    refine seq1 (r1 := [some (.loc p), some (.int sz), some (.tup [.int w0, .int w1, .int w2]), some (.int it), some (.loc S3.length), some (.loc S4.length), none, none, none, none, none, none, none, none, none, none, none]) (S1 := S5) (by rw [sAs_ap, q5]; rfl) ?_
    refine seq1 (r1 := [some (.loc p), some (.int sz), some (.tup [.int w0, .int w1, .int w2]), some (.int it), some (.loc S3.length), some (.loc S4.length), some (.loc S5.length), none, none, none, none, none, none, none, none, none, none]) (S1 := S6) (by rw [sAs_ap, q6]; rfl) ?_
    refine seq1 (r1 := [some (.loc p), some (.int sz), some (.tup [.int w0, .int w1, .int w2]), some (.int it), some (.loc S3.length), some (.loc S4.length), some (.loc S5.length), some (.tup [.tup [.str (tx "say"), e0], .tup [.str (tx "send"), .str (tx "u"), e1], .tup [.str (tx "wait"), .str (tx "k"), e2], .tup [.str (tx "repeat"), e3, .tup [sayD 1]]]), none, none, none, none, none, none, none, none, none]) (S1 := S6) (by (repeat (first | walk_at "ev" | simp only [x0, x1, x2, x3])); rfl) ?_
    refine seq1 (r1 := [some (.loc p), some (.int sz), some (.tup [.int w0, .int w1, .int w2]), some (.int it), some (.loc S3.length), some (.loc S4.length), some (.loc S5.length), some (prog8 e0 e1 e2 e3 e4 e5), none, none, none, none, none, none, none, none, none]) (S1 := S6) (by (repeat (first | walk_at "ev" | simp only [x0, x4, x5, add_t1000, List.length_cons, List.length_nil, Nat.reduceAdd, Nat.reduceLeDiff])); rfl) ?_
    refine seq1 (r1 := [some (.loc p), some (.int sz), some (.tup [.int w0, .int w1, .int w2]), some (.int it), some (.loc S3.length), some (.loc S4.length), some (.loc S5.length), some (prog8 e0 e1 e2 e3 e4 e5), some (after8 e1 e2), none, none, none, none, none, none, none, none]) (S1 := S6) (by (repeat (first | walk_at "ev" | simp only [x1, x2])); rfl) ?_
    refine seq1 (r1 := [some (.loc p), some (.int sz), some (.tup [.int w0, .int w1, .int w2]), some (.int it), some (.loc S3.length), some (.loc S4.length), some (.loc S5.length), some (prog8 e0 e1 e2 e3 e4 e5), some (after8 e1 e2), some (.tup cells8), none, none, none, none, none, none, none]) (S1 := S6) (by (repeat (first | walk_at "ev" | simp only [x1])); rfl) ?_
    refine seq1 (r1 := [some (.loc p), some (.int sz), some (.tup [.int w0, .int w1, .int w2]), some (.int it), some (.loc S3.length), some (.loc S4.length), some (.loc S5.length), some (prog8 e0 e1 e2 e3 e4 e5), some (after8 e1 e2), some (.tup cells8), some ((stn8 e0 e1 e2 e3 e4 e5).d), none, none, none, none, none, none]) (S1 := S6) (by (repeat (first | walk_at "ev" | simp only [x1])); rfl) ?_
    refine seq1 (r1 := [some (.loc p), some (.int sz), some (.tup [.int w0, .int w1, .int w2]), some (.int it), some (.loc S3.length), some (.loc S4.length), some (.loc S5.length), some (prog8 e0 e1 e2 e3 e4 e5), some (after8 e1 e2), some (.tup cells8), some ((stn8 e0 e1 e2 e3 e4 e5).d), some (m.d), none, none, none, none, none]) (S1 := S6) (by (repeat (first | walk_at "ev" | simp only [x1])); rw [hm]; rfl) ?_
    refine seq1 (r1 := [some (.loc p), some (.int sz), some (.tup [.int w0, .int w1, .int w2]), some (.int it), some (.loc S3.length), some (.loc S4.length), some (.loc S5.length), some (prog8 e0 e1 e2 e3 e4 e5), some (after8 e1 e2), some (.tup cells8), some ((stn8 e0 e1 e2 e3 e4 e5).d), some (m.d), some (.tup said), none, none, none, none]) (S1 := S6) (by (repeat (first | walk_at "ev" | simp only [y0, y3, mr, ad1, y4, y5, dl, ad2]))) ?_
    refine seq1 (r1 := [some (.loc p), some (.int sz), some (.tup [.int w0, .int w1, .int w2]), some (.int it), some (.loc S3.length), some (.loc S4.length), some (.loc S5.length), some (prog8 e0 e1 e2 e3 e4 e5), some (after8 e1 e2), some (.tup cells8), some ((stn8 e0 e1 e2 e3 e4 e5).d), some (m.d), some (.tup said), some (told), none, none, none]) (S1 := S6) (by (repeat (first | walk_at "ev" | simp only [qx]))) ?_
    refine seq1 (r1 := [some (.loc p), some (.int sz), some (.tup [.int w0, .int w1, .int w2]), some (.int it), some (.loc S3.length), some (.loc S4.length), some (.loc S5.length), some (prog8 e0 e1 e2 e3 e4 e5), some (after8 e1 e2), some (.tup cells8), some ((stn8 e0 e1 e2 e3 e4 e5).d), some (m.d), some (.tup said), some (told), none, none, none]) (S1 := S6) (by (repeat (first | walk_at "ev" | simp only [rp1, y0, y1, y2, cut, add_t1000, List.length_cons, List.length_nil, Nat.reduceAdd, Nat.reduceLeDiff, ← htold, ne_self]))) ?_
    refine seq1 (r1 := [some (.loc p), some (.int sz), some (.tup [.int w0, .int w1, .int w2]), some (.int it), some (.loc S3.length), some (.loc S4.length), some (.loc S5.length), some (prog8 e0 e1 e2 e3 e4 e5), some (after8 e1 e2), some (.tup cells8), some ((stn8 e0 e1 e2 e3 e4 e5).d), some (m.d), some (.tup said), some (told), none, none, none]) (S1 := S7) (by (repeat (first | walk_at "ev" | simp only [y1, sA]))) ?_
    refine seq1 (r1 := [some (.loc p), some (.int sz), some (.tup [.int w0, .int w1, .int w2]), some (.int it), some (.loc S3.length), some (.loc S4.length), some (.loc S5.length), some (prog8 e0 e1 e2 e3 e4 e5), some (after8 e1 e2), some (.tup cells8), some ((stn8 e0 e1 e2 e3 e4 e5).d), some (m.d), some (.tup said), some (told), some (.int te), none, none]) (S1 := S7) (by (repeat (first | walk_at "ev" | simp only [y17, x27, pl7, md, pr7, de]))) ?_
    refine seq1 (r1 := [some (.loc p), some (.int sz), some (.tup [.int w0, .int w1, .int w2]), some (.int it), some (.loc S3.length), some (.loc S4.length), some (.loc S5.length), some (prog8 e0 e1 e2 e3 e4 e5), some (after8 e1 e2), some (.tup cells8), some ((stn8 e0 e1 e2 e3 e4 e5).d), some (m.d), some (.tup said), some (.tup [.tup [.int w0, .int d1, .int w2], .tup [], .tup [], .tup [.int ((2 * d1).fmod sz), .int te]]), some (.int te), none, none]) (S1 := S7) (by (repeat (first | walk_at "ev" | simp only [qy]))) ?_
    (repeat (first | walk_at "ev" | simp only [rp2, wx0, wx2, y17, ml2, md, eq_self_s]))
  · rw [hS7]
    exact ((((g1.trans g2).trans g3).trans g4).trans (g5.trans g6)).off l3
  · rw [hS7]
    exact (p6.off (by omega)).mono (by omega)
end Lw
namespace Lw
open PySem PySem.Spec PyProof.Rows L2 Fa
local macro_rules | `(tactic| walk_at "ev") => `(tactic| simp only [bK_ok, bK_err, bK_bad, bnd_ap, ret_ap, fail_ap, mVar_ap, vK_some, mC_ap, m1_ap, m2_ap, k2_ap, mNil_ap, mCons_ap, kCons_ap, kCon_ap, mA_ap, mIf_ap, kIf_t, kIf_f, tOf_ap, isBl_ap, tNt_ap, kNt_ap, tAn_ap, kAn_t, kAn_f, tOr_ap, kOr_t, kOr_f, mNot_ap, kNot_ap, mAnd_ap, kAnd_t, kAnd_f, mOr_ap, kOrV_t, kOrV_f,
  sSeq_ap, sK_nx, sK_rt, sK_bk, sK_ct, sK_ex, sK_bad, oK_ok, oK_err, oK_bad, kNx_ap, kRt_ap, sEx_ap, sRet_ap, sRetN_ap, sNx_ap, sBad_ap, sIf_ap, kIfS_t, kIfS_f, gN_ap, gT_ap, gT_tt, gTc_ap, gT0_ap, sAs_ap, kAs_ap, kAs2_ok, sPar_ap, kPar_ap, gSubD_ap, kSub1_ap, kSub2_ap, kSub3_ap, fK_nx, fK_rt, fK_ex, mLM_ap, mRng1_ap, mRng2_ap, mSrc_ap, src_t, src_r, src_s, src_k,
  mChain_ap, kCh1_ap, kCh2_ap, kCh3_t, kCh3_f, mSl_ap, kSl1_ap, kSl2_ap, mSlT_ap, kTl1_ap, kTl2_ap, mP0_ap, mP_ap, intO_ap, sl_t, dfl_ap, mTM_ap, kTM_k, kTM_t, mMeth_ap, kMe1_ap, kMe2_ap, kMe3_ap, gFld_ap, kF1_ap, gSubA_ap, kSA1_ap, kSA2_ap, sPar3_ap, kPar3_ap, mkD_ap, mkR_ok, dct0D_ap, mDisp_ap, mPairs_nil, mPairs_cons, kPr1_ap, kPr2_ap, kPr3_ap, tuple_t, list_t, mZip_ap, zip_tt,
  wipeE, nc0, nc1, nc2, nc3, nc4, nc5, nc6, nc7, nc8, nc9, nc10, nc11, nc12, nc13, nc14, nc15, Int.reduceEq, Int.reduceLE, Int.reduceLT, Int.reduceSub, Int.reduceAdd,
  fnM_ap, tupD_ap, lstD_ap, le_line, Nat.reduceLeDiff, eq_self,
  add_ii, sub_ii, neg_i, lt_ii, le_ii, gt_ii, ge_ii, isN_n, isN_i, isN_t, isN_s, isN_b, isN_l, abs_i, max_ii, min_ii, int_i, int_b, len_t, len_r, eq_ii, eq_bb, eq_ss,
  List.map_cons, List.map_nil, List.cons_append, List.nil_append, List.append_nil, List.replicate_succ, List.replicate_zero, List.length_cons, List.length_nil, Nat.reduceSub, Nat.reduceAdd, Nat.sub_self, Nat.zero_add,
  List.getElem?_cons_succ, List.getElem?_cons_zero, List.set_cons_succ, List.set_cons_zero, Bool.not_true, Bool.not_false, decide_true, decide_false, if_true, if_false, reduceIte, Bool.false_eq_true])
theorem rights_q {S : Sto} {p : Nat} (hp : Pot p S 0) (x0 x1 x3 : Option D) : ∃ T, mA allD (mCons (mLc (mRng1 (mCons (mC (.int 20)) mNil)) (gN 3) tT (mA (gq F_l_right) (mCons (mVar 2) mNil)) [3]) mNil) [x0, x1, some (.loc p), x3] S = .ok (.bl true) T := by
  have hpl := hp.lt
  have hm : mRng1 (mCons (mC (.int 20)) mNil) [x0, x1, some (.loc p), x3] S = .ok (.rng 0 20) S := rfl
  obtain ⟨ds, T, e1, e2, hl, hP, hD⟩ := mLc_inv (g := gN 3) (e := mA (gq F_l_right) (mCons (mVar 2) mNil)) (vs := [3]) 20 (fun i => .int (0 + (i : Int))) (fun i acc T => Pot p T (200 * i) ∧ ∀ d ∈ acc, d = .bl true) hm rfl (fun i acc T _ => next_rng _ _ _ _)
    (fun i acc T hi hJ hT => by
      obtain ⟨hP, hD⟩ := hJ
      obtain ⟨U, e, g, hU⟩ := right_q hP (by omega)
      obtain ⟨x, y, z, e', hP'⟩ := gq_grw e g hP.lt hU rfl
      have hT' : (T.set p (il x y z))[S.length]? = some (.lst acc) := by
        rw [List.getElem?_set_ne (by omega)]
        exact hT
      refine ⟨_, T.set p (il x y z), .bl true, rfl, ?_, hT', (hP'.mono (by omega)).off (by omega), fun d hd => ?_⟩
      · repeat (first | walk_at "ev" | simp only [e'])
      · rcases List.mem_append.mp hd with hd | hd
        · exact hD d hd
        · simpa using hd) (le_line (by decide)) ⟨hp.app _, fun d hd => nomatch hd⟩
  have hds : ds = List.replicate 20 (.bl true) := List.eq_replicate_iff.mpr ⟨hl, hD⟩
  rw [hds] at e2
  have a1 := all_rep e2
  refine ⟨T, ?_⟩
  repeat (first | walk_at "ev" | simp only [e1, a1])
noncomputable def body8 : Fa.Env → Sto → Out := (sSeq (sAs (mA (gq F_l_pot) (mCons (mVar 0) (mCons (mVar 1) mNil))) (gN 2))
    (sIf (tNt (tOf (mA allD (mCons (mLc (mRng1 (mCons (mC (.int 20)) mNil)) (gN 3) tT (mA (gq F_l_right) (mCons (mVar 2) mNil)) [3]) mNil)))) (sRet (mC (.bl false))) sNx))
theorem law_true : ∀ ns : List Int, ns.length ≤ 63 → ∃ S, F_law [.rls (ns.map D.int)] [] = .ok (.bl true) S := by
  intro ns _
  refine law_all (nv := 3) (body := body8) (fun r => ∃ x1 x2 x3, r = [some (.rls (ns.map D.int)), x1, x2, x3]) rfl ns ⟨_, _, _, rfl⟩ ?_
  rintro i r S hi ⟨x1, x2, x3, rfl⟩
  obtain ⟨a, b, e, hp⟩ := pot_q ns i hi S
  obtain ⟨T, hT⟩ := rights_q hp (some (.rls (ns.map D.int))) (some (.int (i : Int))) x3
  refine ⟨[some (.rls (ns.map D.int)), some (.int (i : Int)), some (.loc S.length), x3], T, ?_, ⟨_, _, _, rfl⟩⟩
  unfold body8
  refine seq1 (r1 := [some (.rls (ns.map D.int)), some (.int (i : Int)), some (.loc S.length), x3]) (S1 := S ++ [il a b 0]) ?_ ?_
  · simp only [List.set_cons_succ, List.set_cons_zero]
    repeat (first | walk_at "ev" | simp only [e])
  · rw [sIf_ap, tNt_ap, tOf_ap, hT]
    rfl
end Lw
open PySem PySem.W PyProof.Rows
set_option maxHeartbeats 0 in
theorem PySem.Challenge.cw_farasnothing_k08_expressions_reckoned_holds : PySem.Challenge.rw_farasnothing_k08_expressions_reckoned.Holds := by
  w_on; o_law; k_head; (case hw => w_witness2)
  k_fill
  refine Fa.law_walk (l := PySem.Challenge.rw_farasnothing_k08_expressions_reckoned) (n := 63) (k := 34) (x := "_law_script") rfl (by decide) rfl ⟨rfl, by decide, by decide⟩ (fun w h Y => PySem.W.kIn_of Y) ?F
  case F =>
    intro w mg fa h KX G hmg
    refine' Lw.all_mk (w := w) KX G ?aC_Run ?pg_Run ?hd_Run ?po_Run ?sa_Run ?mk_Run ?kc_Run ?nA_Run_run_size ?nA_Run_cell_book ?nA_Run_letter_worth ?nA_Run_sent_list ?nA_Run_alarm_book ?nA_Run_said_list ?a_is_number ?l_is_number ?x_is_number ?k1_is_number ?k2_is_number ?a_is_name ?l_is_name ?k1_is_name ?k2_is_name ?a_is_expression ?l_is_expression ?x_is_expression ?k1_is_expression ?k2_is_expression ?a_is_condition ?l_is_condition ?k1_is_condition ?k2_is_condition ?a_is_named ?l_is_named ?k1_is_named ?k2_is_named ?a_is_statement ?l_is_statement ?k1_is_statement ?k2_is_statement ?a_is_program ?l_is_program ?x_is_program ?k1_is_program ?k2_is_program ?a_are_names ?l_are_names ?k1_are_names ?k2_are_names ?a_are_cells ?l_are_cells ?k1_are_cells ?k2_are_cells ?a_is_station ?l_is_station ?k1_is_station ?k2_is_station ?a_are_stations ?l_are_stations ?k1_are_stations ?k2_are_stations ?a_station_named ?l_station_named ?k1_station_named ?k2_station_named ?a_is_line ?l_is_line ?k1_is_line ?k2_is_line ?a_are_lines_of ?l_are_lines_of ?k1_are_lines_of ?k2_are_lines_of ?a_is_first ?l_is_first ?k1_is_first ?k2_is_first ?a_are_firsts ?l_are_firsts ?k1_are_firsts ?k2_are_firsts ?a_is_model ?l_is_model ?k1_is_model ?k2_is_model ?a_check_model ?l_check_model ?k1_check_model ?k2_check_model ?a_checked_station ?l_checked_station ?k1_checked_station ?k2_checked_station ?a_Run___init__ ?i_Run___init__ ?l_Run___init__ ?k1_Run___init__ ?k2_Run___init__ ?a_Run_reckoned ?i_Run_reckoned ?l_Run_reckoned ?k1_Run_reckoned ?k2_Run_reckoned ?a_Run_is_so ?i_Run_is_so ?l_Run_is_so ?k1_Run_is_so ?k2_Run_is_so ?a_Run_do_all ?i_Run_do_all ?l_Run_do_all ?k1_Run_do_all ?k2_Run_do_all ?a_Run_do_one ?i_Run_do_one ?l_Run_do_one ?k1_Run_do_one ?k2_Run_do_one ?a_run_station ?l_run_station ?k1_run_station ?k2_run_station ?a_are_worths ?l_are_worths ?k1_are_worths ?k2_are_worths ?a_handled ?l_handled ?k1_handled ?k2_handled ?a_l_pot ?l_l_pot ?k1_l_pot ?k2_l_pot ?a_l_take ?l_l_take ?k1_l_take ?k2_l_take ?a_l_of ?l_l_of ?k1_l_of ?k2_l_of ?a_l_sum ?l_l_sum ?k1_l_sum ?k2_l_sum ?a_l_plain ?l_l_plain ?k1_l_plain ?k2_l_plain ?a_l_right ?l_l_right ?k1_l_right ?k2_l_right ?a_law ?l_law ?k1_law ?k2_law ?y_abs ?y_all ?y_bool ?y_int ?y_isinstance ?y_len ?y_max ?y_min ?y_range ?y_repr ?y_str ?y_tuple ?y_zip ?y_COMPARISONS ?q_COMPARISONS ?y_DEEPEST ?y_FIRST_PARTS ?y_IT ?y_LEAST_SIZE ?y_LETTERS ?y_LINE_PARTS ?y_MODEL_PARTS ?y_MOST_ALARMS ?y_MOST_DELAY ?y_MOST_LETTERS ?y_MOST_PORTS ?y_MOST_SIZE ?y_MOST_STATEMENTS ?y_NAMED ?q_NAMED ?y_PAIR ?y_PARTS ?q_PARTS ?o_PARTS ?j_PARTS ?e_PARTS ?y_SIGNS ?q_SIGNS ?y_STATION_PARTS ?y_TRIPLE Lw.law_true hmg
    (case aC_Run => k_is); (case pg_Run => k_is); (case hd_Run => k_is); (case po_Run => k_is); (case sa_Run => k_is); (case mk_Run => k_is); (case kc_Run => k_is); (case nA_Run_run_size => k_is); (case nA_Run_cell_book => k_is); (case nA_Run_letter_worth => k_is); (case nA_Run_sent_list => k_is); (case nA_Run_alarm_book => k_is); (case nA_Run_said_list => k_is); (case a_is_number => k_is); (case l_is_number => k_is); (case x_is_number => k_is); (case k1_is_number => k_is); (case k2_is_number => k_is); (case a_is_name => k_is); (case l_is_name => k_is); (case k1_is_name => k_is); (case k2_is_name => k_is); (case a_is_expression => k_is); (case l_is_expression => k_is); (case x_is_expression => k_is); (case k1_is_expression => k_is); (case k2_is_expression => k_is); (case a_is_condition => k_is); (case l_is_condition => k_is); (case k1_is_condition => k_is); (case k2_is_condition => k_is); (case a_is_named => k_is); (case l_is_named => k_is); (case k1_is_named => k_is); (case k2_is_named => k_is); (case a_is_statement => k_is); (case l_is_statement => k_is); (case k1_is_statement => k_is); (case k2_is_statement => k_is); (case a_is_program => k_is); (case l_is_program => k_is); (case x_is_program => k_is); (case k1_is_program => k_is); (case k2_is_program => k_is); (case a_are_names => k_is); (case l_are_names => k_is); (case k1_are_names => k_is); (case k2_are_names => k_is); (case a_are_cells => k_is); (case l_are_cells => k_is); (case k1_are_cells => k_is); (case k2_are_cells => k_is); (case a_is_station => k_is); (case l_is_station => k_is); (case k1_is_station => k_is); (case k2_is_station => k_is); (case a_are_stations => k_is); (case l_are_stations => k_is); (case k1_are_stations => k_is); (case k2_are_stations => k_is); (case a_station_named => k_is); (case l_station_named => k_is); (case k1_station_named => k_is); (case k2_station_named => k_is); (case a_is_line => k_is); (case l_is_line => k_is); (case k1_is_line => k_is); (case k2_is_line => k_is); (case a_are_lines_of => k_is); (case l_are_lines_of => k_is); (case k1_are_lines_of => k_is); (case k2_are_lines_of => k_is); (case a_is_first => k_is); (case l_is_first => k_is); (case k1_is_first => k_is); (case k2_is_first => k_is); (case a_are_firsts => k_is); (case l_are_firsts => k_is); (case k1_are_firsts => k_is); (case k2_are_firsts => k_is); (case a_is_model => k_is); (case l_is_model => k_is); (case k1_is_model => k_is); (case k2_is_model => k_is); (case a_check_model => k_is); (case l_check_model => k_is); (case k1_check_model => k_is); (case k2_check_model => k_is); (case a_checked_station => k_is); (case l_checked_station => k_is); (case k1_checked_station => k_is); (case k2_checked_station => k_is); (case a_Run___init__ => k_is); (case i_Run___init__ => k_is); (case l_Run___init__ => k_is); (case k1_Run___init__ => k_is); (case k2_Run___init__ => k_is); (case a_Run_reckoned => k_is); (case i_Run_reckoned => k_is); (case l_Run_reckoned => k_is); (case k1_Run_reckoned => k_is); (case k2_Run_reckoned => k_is); (case a_Run_is_so => k_is); (case i_Run_is_so => k_is); (case l_Run_is_so => k_is); (case k1_Run_is_so => k_is); (case k2_Run_is_so => k_is); (case a_Run_do_all => k_is); (case i_Run_do_all => k_is); (case l_Run_do_all => k_is); (case k1_Run_do_all => k_is); (case k2_Run_do_all => k_is); (case a_Run_do_one => k_is); (case i_Run_do_one => k_is); (case l_Run_do_one => k_is); (case k1_Run_do_one => k_is); (case k2_Run_do_one => k_is); (case a_run_station => k_is); (case l_run_station => k_is); (case k1_run_station => k_is); (case k2_run_station => k_is); (case a_are_worths => k_is); (case l_are_worths => k_is); (case k1_are_worths => k_is); (case k2_are_worths => k_is); (case a_handled => k_is); (case l_handled => k_is); (case k1_handled => k_is); (case k2_handled => k_is); (case a_l_pot => k_is); (case l_l_pot => k_is); (case k1_l_pot => k_is); (case k2_l_pot => k_is); (case a_l_take => k_is); (case l_l_take => k_is); (case k1_l_take => k_is); (case k2_l_take => k_is); (case a_l_of => k_is); (case l_l_of => k_is); (case k1_l_of => k_is); (case k2_l_of => k_is); (case a_l_sum => k_is); (case l_l_sum => k_is); (case k1_l_sum => k_is); (case k2_l_sum => k_is); (case a_l_plain => k_is); (case l_l_plain => k_is); (case k1_l_plain => k_is); (case k2_l_plain => k_is); (case a_l_right => k_is); (case l_l_right => k_is); (case k1_l_right => k_is); (case k2_l_right => k_is); (case a_law => k_is); (case l_law => k_is); (case k1_law => k_is); (case k2_law => k_is); (case y_abs => k_is); (case y_all => k_is); (case y_bool => k_is); (case y_int => k_is); (case y_isinstance => k_is); (case y_len => k_is); (case y_max => k_is); (case y_min => k_is); (case y_range => k_is); (case y_repr => k_is); (case y_str => k_is); (case y_tuple => k_is); (case y_zip => k_is); (case y_COMPARISONS => k_is); (case q_COMPARISONS => k_is); (case y_DEEPEST => k_is); (case y_FIRST_PARTS => k_is); (case y_IT => k_is); (case y_LEAST_SIZE => k_is); (case y_LETTERS => k_is); (case y_LINE_PARTS => k_is); (case y_MODEL_PARTS => k_is); (case y_MOST_ALARMS => k_is); (case y_MOST_DELAY => k_is); (case y_MOST_LETTERS => k_is); (case y_MOST_PORTS => k_is); (case y_MOST_SIZE => k_is); (case y_MOST_STATEMENTS => k_is); (case y_NAMED => k_is); (case q_NAMED => k_is); (case y_PAIR => k_is); (case y_PARTS => k_is); (case q_PARTS => k_is); (case o_PARTS => decide); (case j_PARTS => exact ⟨⟨_, _, rfl, rfl⟩, by repeat (first | exact True.intro | refine ⟨⟨_, _, rfl, rfl⟩, ?_⟩)⟩); (case e_PARTS => repeat (first | exact True.intro | refine ⟨⟨_, rfl⟩, ⟨_, rfl⟩, ?_⟩)); (case y_SIGNS => k_is); (case q_SIGNS => k_is); (case y_STATION_PARTS => k_is); (case y_TRIPLE => k_is)
