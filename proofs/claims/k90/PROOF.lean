import PyProof.Rows.All
import Wide.All
import OpenK.AllK
import Wide.FinOn
import HandS.ForMost
import HandS.ForExc
import HandS.TupLe
import HandS.TupAny
import HandS.IsInst
import HandS.TupMul
import HandS.Lambda
import HandS.ExcInit
import KE.GoesMore
import PyProof.EnumMake
import HandS.Zip
import HandS.TupLen
import HandS.Style
import HandS.Deep
import HandS.Strs
import HandS.Text
import HandS.DictComp
import HandS.Defaults
import HandS.Small
import PyProof.StrLawsRepr
import HandS.More
import KE.KDictZip
import KE.GoesEnum
import HandS.Conv
import HandS.Replace
import KE.KExcSuper
import HandS.ExcIs
import HandS.ExcField
import HandS.SetFor
import HandS.EndTab
import KE.RegKSuper
import PyProof.ReprRoads
import PyProof.ReprLen
import HandS.FStr
import HandS.StrMore
import HandS.RaiseMore
import HandS.Star
import PyProof.Rows.IntBool
import PySem.Challenge.RW_farasnothing_k90_deeds_written
set_option Elab.async false
set_option linter.all false
set_option maxRecDepth 100000
set_option maxHeartbeats 4000000
namespace Fa
open PySem PySem.Spec PyProof.Rows L2
/-! tuples that are known with their object (it has no dict): the rules that make tuples, over again -/
theorem frz_ok {P : Program} {w : World} {H : Hp} {h : Heap} {its : List Value} {xs : List V} (hz : xs.length ≤ sizeLine) (r : Vals xs its) :
    ObjOk P w H (h.push { cls := .type "tuple", data := .seq its.toArray }) h.objs.size (.frz { cls := .type "tuple", data := .seq its.toArray } (.tup xs)) :=
  ⟨Heap.get?_push_size _ rfl, hz, its, r, ⟨_, Heap.get?_push_size _ rfl, rfl, _, rfl⟩⟩
/-- a new tuple -/
def NewF (H : Hp) (xs : List V) (Q : VK) : Prop := ∀ (p : Addr) (o : Obj), H p = none → o.dict = none → Q (.ref p) (upd H p (.frz o (.tup xs)))
section
variable {X : Cx}
theorem new_f {pins : List (Addr × Obj)} {σ : L2.St} {H : Hp} {s : Shared} {its : List Value} {xs : List V} {Q : VK} (I : Inv X pins σ H s) (hz : xs.length ≤ sizeLine) (r : Vals xs its) (q : NewF H xs Q) :
    EP X pins σ Q (.ref s.heap.objs.size) { s with heap := s.heap.push { cls := .type "tuple", data := .seq its.toArray } } :=
  ⟨.ref s.heap.objs.size, upd H s.heap.objs.size (.frz { cls := .type "tuple", data := .seq its.toArray } (.tup xs)), I.laid (t' := s.toks) (fun b u e => Heap.get?_push_of_some _ e) (Nat.le_refl _) (frz_ok hz r), rfl, q _ _ (I.hok.fresh (Nat.le_refl _)) rfl⟩
def tTupF (t : TA) : TE := fun σ H Q => t σ H fun xs H1 => xs.length ≤ sizeLine ∧ NewF H1 xs Q
theorem pe_tupF {es : List Expr} {t : TA} {x1} {pos : Pos} (h : PA X es t) : PE X (.Tuple es x1 pos) (tTupF t) := by
  refine ⟨fun pins s σ H Q I hq => ?_⟩
  refine wpAny_Tuple_spliced (thn (h.run pos pins s σ H _ I hq) fun us s1 ⟨xs, H1, I1, r, z, q⟩ => ⟨by rw [← r.length]; exact z, ?_⟩)
  exact new_f I1 z r q
def rCatF (K : PySem.W.Frag) : R2 := fun x y H Q => ∃ a b xs ys, x = .ref a ∧ y = .ref b ∧ SqT K H a xs ∧ SqT K H b ys ∧ xs.length + ys.length ≤ sizeLine ∧
  (xs = [] → Q (.ref b) H) ∧ (xs ≠ [] → ys = [] → Q (.ref a) H) ∧ (xs ≠ [] → ys ≠ [] → NewF H (xs ++ ys) Q)
theorem op_catF : OpR X (binaryOp .Add) (rCatF X.K) := by
  intro pins s σ H x y v u Q I rx ry h
  obtain ⟨a, b, xs, ys, rfl, rfl, ha, hb, hz, q0, q1, q2⟩ := h
  cases rx
  cases ry
  obtain ⟨its, r1, p1, _⟩ := I.tuple ha
  obtain ⟨its2, r2, p2, _⟩ := I.tuple hb
  by_cases hx : xs = []
  · subst hx
    cases r1
    exact cat_tup0 p1 p2 ⟨.ref b, H, I, rfl, q0 rfl⟩
  · refine HT.cat_tup p1 p2 (fun z => hx (r1.nil_iff.mp z)) (fun z => ⟨.ref a, H, I, rfl, q1 hx (r2.nil_iff.mp z)⟩) (fun z => ?_) (by rw [← r1.length, ← r2.length]; exact hz)
    exact new_f I (by rw [List.length_append]; exact hz) (r1.append r2) (q2 hx fun w => z (r2.nil_iff.mpr w))
def rSlF (K : PySem.W.Frag) : V → Option Int → Option Int → Hp → VK → Prop := fun x lo hi H Q => ∃ a xs, x = .ref a ∧ SqT K H a xs ∧
  (HT.sIx xs.length 0 lo = 0 ∧ HT.sIx xs.length xs.length hi = xs.length → Q (.ref a) H) ∧ (¬ (HT.sIx xs.length 0 lo = 0 ∧ HT.sIx xs.length xs.length hi = xs.length) → NewF H (cutV xs lo hi) Q)
theorem sl_tupF : SlR X (rSlF X.K) := by
  intro pins s σ H x v vl vu lo hi sl Q I rx hs pl pu h
  obtain ⟨a, xs, rfl, hx, q1, q2⟩ := h
  cases rx
  obtain ⟨its, r, ht, hz⟩ := I.tuple hx
  have hlen : its.toArray.size = xs.length := by rw [List.size_toArray]; exact r.length.symm
  refine ⟨"tuple", _, PyProof.Rows.slot_tuple_getitem.lookup, ht.typeIs, ?_⟩
  by_cases hw : HT.sIx xs.length 0 lo = 0 ∧ HT.sIx xs.length xs.length hi = xs.length
  · exact getItem_tuple_whole ht hs pl pu (by rw [hlen]; exact hw) ⟨.ref a, H, I, rfl, q1 hw⟩
  · refine HT.getItem_tuple_cut ht hs pl pu (by rw [hlen]; exact hw) ?_ (by rw [hlen]; exact hz)
    rw [hlen]
    exact new_f I (Nat.le_trans (cutV_length xs lo hi) hz) ((r.drop (HT.sIx xs.length 0 lo)).take (HT.sIx xs.length xs.length hi - HT.sIx xs.length 0 lo)) (q2 hw)
def rTupleF (K : PySem.W.Frag) : List V → Hp → VK → Prop := fun xs H Q => ∃ p ys, xs = [.ref p] ∧ ((SqL K H p ys ∧ NewF H ys Q) ∨ (SqT K H p ys ∧ Q (.ref p) H))
theorem call_tupleF : CallR X (.type "tuple") (rTupleF X.K) := by
  intro pins s σ H xs us Q I r h
  obtain ⟨p, ys, rfl, h⟩ := h
  obtain ⟨u, rfl, rx⟩ := vals1 r
  cases rx
  rcases h with ⟨hq, q⟩ | ⟨hq, q⟩
  · obtain ⟨its, r', pl, hz⟩ := I.list hq
    have hlen := r'.length
    refine call_tuple_list pl.isList (fun h' kp => ?_) (by simp only [List.size_toArray] <;> omega)
    exact new_f (s := { s with heap := h' }) (I.kept (t' := s.toks) kp) hz r' q
  · obtain ⟨its, r', pl, hz⟩ := I.tuple hq
    exact call_tuple_same pl ⟨.ref p, H, I, rfl, q⟩
def rRepF (K : PySem.W.Frag) : R2 := fun x y H Q => ∃ l k xs, x = .ref l ∧ y = .int k ∧ SqT K H l xs ∧ xs ≠ [] ∧ 2 ≤ k ∧ k ≤ 1000 ∧ xs.length ≤ 1000 ∧ NewF H (List.replicate k.toNat xs).flatten Q
theorem op_repF : OpR X (binaryOp .Mult) (rRepF X.K) := by
  intro pins s σ H x y v u Q I rx ry h
  obtain ⟨l, k, xs, rfl, rfl, hT, hne, h1, h2, hz, q⟩ := h
  cases rx
  obtain ⟨t, rfl⟩ := ry
  obtain ⟨its, r, ⟨⟨cls, dd, data, sl⟩, ho, hc, n, hd⟩, hs⟩ := I.tuple hT
  simp only at hc hd
  subst hc hd
  have hle : its.length = xs.length := r.length.symm
  have hi : its.toArray.isEmpty = false := by
    cases its with
    | nil => exact absurd (List.eq_nil_of_length_eq_zero hle.symm) hne
    | cons a b => rfl
  have a1 : k.toNat * xs.length ≤ 1000 * 1000 := Nat.mul_le_mul (by omega) hz
  have a2 : ((xs.length : Nat) : Int) * k ≤ 1000 * k := Int.mul_le_mul_of_nonneg_right (by omega) (by omega)
  have flen : (List.replicate k.toNat its).flatten.length ≤ sizeLine := by
    rw [PyProof.Rows.lm_len_rep_flat, hle, sizeLine_eq]
    omega
  have hm : ((its.toArray.size : Nat) : Int) * k ≤ 1000000 := by
    rw [List.size_toArray, hle]
    omega
  have c0 : (decide (k < -(2 ^ 63)) || decide (k ≥ 2 ^ 63)) = false := by
    rw [decide_eq_false (by omega), decide_eq_false (by omega)] <;> rfl
  have c1 : (its.toArray.isEmpty || k == 1) = false := by
    rw [hi, Bool.false_or]
    exact beq_eq_false_iff_ne.mpr (by omega)
  have c2 : (decide (k ≤ 0) || its.toArray.isEmpty) = false := by
    rw [hi, Bool.or_false]
    exact decide_eq_false (by omega)
  have c4 : Builtin.Tuple.tupleTooMany (((its.toArray.size : Nat) : Int) * k) = false := by
    unfold Builtin.Tuple.tupleTooMany
    rw [sizeLine_eq]
    exact decide_eq_false (by omega)
  refine wpAny_binaryOp_repeat_ref (T := "tuple") (U := "int") (by decide) ⟨_, ho, rfl⟩ (fun s' => typeIs_int s' k t) noFill_tuple_mul F.fills_int_mul F.slot_int_rmul repeat_tuple F.slot_int_index.lookup
    (call_meets F.slot_int_rmul (typeIs_int s k t) F.entry_int_rmul (F.args_int_rmul_2 _ _) (int_rmul_tuple k t l its.toArray n dd sl)
      ⟨ho, rfl, ⟨_, ho, rfl⟩, call_meets F.slot_tuple_mul ⟨_, ho, rfl⟩ F.entry_tuple_mul (F.args_tuple_mul_2 _ _) (tuple_mulW l its.toArray n dd sl k t c0 c1 c2 (by omega) c4 (by rw [size_rep, List.size_toArray]; exact flen)) ⟨ho, ?_⟩⟩)
  rw [size_rep]
  exact new_f I (by rw [PyProof.Rows.lm_len_rep_flat, sizeLine_eq]; omega) (r.rep k.toNat) q
end
end Fa
namespace Fa
open PySem PySem.Spec PyProof.Rows L2
/-! data, the store, results -/
inductive D where
  | non | bl (b : Bool) | int (i : Int) | str (x : Str) | tup (ds : List D) | ktp (ds : List D) | ttp (ds : List D) | rls (ds : List D) | loc (n : Nat) | adr (a : Addr) | ty (n : String) | exn (cn : Str) (ns : List Str) (ds : List D)
inductive MO where
  | lst (ds : List D)
  | dct (kvs : List (Key × D))
  | dcT (kvs : List (List Key × D))
  | ins (cn : Str) (fs : List (Str × D))
  | tab (P : Addr) (q : Str)
abbrev Sto := List MO
structure Exn where
  cn : Str
  fs : List (Str × D)
inductive Res (α : Type) where
  | ok (a : α) (S : Sto) | err (x : Exn) (S : Sto) | bad
abbrev M (α : Type) := Sto → Res α
def ret {α : Type} (a : α) : M α := fun S => .ok a S
def bnd {α β : Type} (m : M α) (f : α → M β) : M β := fun S =>
  match m S with
  | .ok a S' => f a S'
  | .err x S' => .err x S'
  | .bad => .bad
def fail {α : Type} : M α := fun _ => .bad
abbrev Env := List (Option D)
/-- how a statement ends -/
inductive Out where
  | nx (r : Env) (S : Sto) | rt (d : D) (S : Sto) | bk (r : Env) (S : Sto) | ct (r : Env) (S : Sto) | ex (x : Exn) (r : Env) (S : Sto) | bad
/-! what a value stands for -/
/-- the class of that name -/
def ClsAt (K : PySem.W.Frag) (cn : Str) (C : Addr) : Prop := PySem.W.nsIn K mainGlobals cn = some (some (.ref C))
theorem ClsAt.uniq {K : PySem.W.Frag} {cn : Str} {C C' : Addr} (h : ClsAt K cn C) (h' : ClsAt K cn C') : C = C' := by
  unfold ClsAt at h h'
  rw [h] at h'
  cases h'
  rfl
section
variable (K : PySem.W.Frag) (mu : List Addr) (H : Hp)
def SqR (a : Addr) (vs : List V) : Prop :=
  (∃ o, H a = some (.frz o (.lst vs))) ∨ ∃ (o : Obj) (its : Array Value) (n : Nat), K.lookup a = some o ∧ o.cls = .type "list" ∧ o.dict = none ∧ o.data = .seq its n ∧ its.size ≤ sizeLine ∧ Vals vs its.toList
def SqK (a : Addr) (xs : List V) : Prop := ∃ (o : Obj) (its : Array Value) (n : Nat), K.lookup a = some o ∧ o.cls = .type "tuple" ∧ o.dict = none ∧ o.data = .seq its n ∧ its.size ≤ sizeLine ∧ Vals xs its.toList
mutual
inductive Rep : V → D → Prop
  | non : Rep .non .non
  | bl (b : Bool) : Rep (.bl b) (.bl b)
  | int (i : Int) : Rep (.int i) (.int i)
  | str (x : Str) : Rep (.str x) (.str x)
  | ty (n : String) : Rep (.ty n) (.ty n)
  | adr (a : Addr) : Rep (.ref a) (.adr a)
  | loc {a : Addr} {n : Nat} : mu[n]? = some a → Rep (.ref a) (.loc n)
  | tup {a : Addr} {vs : List V} {ds : List D} {o : Obj} : o.dict = none → H a = some (.frz o (.tup vs)) → Reps vs ds → Rep (.ref a) (.tup ds)
  | ttp {a : Addr} {vs : List V} {ds : List D} : H a = some (.tup vs) → Reps vs ds → Rep (.ref a) (.ttp ds)
  | ktp {a : Addr} {vs : List V} {ds : List D} : SqK K a vs → Reps vs ds → Rep (.ref a) (.ktp ds)
  | rls {a : Addr} {vs : List V} {ds : List D} : SqR K H a vs → Reps vs ds → Rep (.ref a) (.rls ds)
  | exn {cn : Str} {a C dd : Addr} {oe : Obj} {fv : Array Value} {ns : List Str} {vs : List V} {ds : List D} : ClsAt K cn C → H a = some (.ext fun h => h.get? a = some oe) → oe.cls = .ref C → oe.dict = some dd → oe.data = .fields fv → H dd = some (.xd (ns.zip vs)) → Reps vs ds → Rep (.ref a) (.exn cn ns ds)
inductive Reps : List V → List D → Prop
  | nil : Reps [] []
  | cons {v : V} {vs : List V} {d : D} {ds : List D} : Rep v d → Reps vs ds → Reps (v :: vs) (d :: ds)
end
def KReps {κ : Type} : List (κ × V) → List (κ × D) → Prop := Paired fun p q => p.1 = q.1 ∧ Rep K mu H p.2 q.2
def MoRep (a : Addr) : MO → Prop
  | .lst ds => ∃ vs, H a = some (.lst vs) ∧ Reps K mu H vs ds
  | .dct kvs => ∃ vs, H a = some (.dK vs) ∧ KReps K mu H vs kvs
  | .dcT kvs => ∃ vs, H a = some (.dT vs) ∧ KReps K mu H vs kvs
  | .ins cn fs => ∃ C dx vs, ClsAt K cn C ∧ H a = some (.ins C dx vs) ∧ KReps K mu H vs fs
  | .tab _ q => (∃ c, PySem.W.tabIn K q = some (c, a)) ∧ LamX.TabS H a (q ++ ".<locals>." ++ "<lambda>")
def RepO : Option V → Option D → Prop
  | some v, some d => Rep K mu H v d
  | _, none => True
  | none, some _ => False
def ERep : L2.St → Env → Prop := Paired (RepO K mu H)
structure HRep (S : Sto) : Prop where
  len : S.length = mu.length
  nd : mu.Nodup
  ob : ∀ (n : Nat) (o : MO) (a : Addr), S[n]? = some o → mu[n]? = some a → MoRep K mu H a o
def XRep (cls : Value) (dd : Option Addr) (x : Exn) : Prop := (∃ C, ClsAt K x.cn C ∧ cls = .ref C) ∧ ∃ a fs, dd = some a ∧ H a = some (.xd fs) ∧ KReps K mu H fs x.fs
end
/-- later: handles and data stay -/
structure Ext (mu : List Addr) (H : Hp) (mu' : List Addr) (H' : Hp) : Prop where
  pre : ∃ l, mu' = mu ++ l ∧ ∀ a ∈ l, H a = none
  live : ∀ a, H' a = none → H a = none
  rest : ∀ a o, a ∉ mu → H a = some o → H' a = some o
  exts : ∀ a φ, H a = some (.ext φ) → H' a = some (.ext φ)
  xds : ∀ a fs, H a = some (.xd fs) → H' a = some (.xd fs)
  tups : ∀ a xs, H a = some (.tup xs) → H' a = some (.tup xs)
  frzs : ∀ a o u, H a = some (.frz o u) → H' a = some (.frz o u)
section
variable {K : PySem.W.Frag} {mu mu' mu2 : List Addr} {H H' H2 : Hp}
theorem Ext.refl : Ext mu H mu H := ⟨⟨[], by simp, fun _ z => nomatch z⟩, fun _ h => h, fun _ _ _ h => h, fun _ _ h => h, fun _ _ h => h, fun _ _ h => h, fun _ _ _ h => h⟩
theorem Ext.trans (a : Ext mu H mu' H') (b : Ext mu' H' mu2 H2) : Ext mu H mu2 H2 := by
  obtain ⟨l, e, n⟩ := a.pre
  obtain ⟨l', e', n'⟩ := b.pre
  refine ⟨⟨l ++ l', by rw [e', e, List.append_assoc], fun c hc => ?_⟩, fun c h => a.live c (b.live c h), fun c o hc h => b.rest c o ?_ (a.rest c o hc h), fun c φ h => b.exts c φ (a.exts c φ h), fun c φ h => b.xds c φ (a.xds c φ h),
    fun c xs h => b.tups c xs (a.tups c xs h), fun c o u h => b.frzs c o u (a.frzs c o u h)⟩
  · rcases List.mem_append.mp hc with z | z
    · exact n c z
    · exact a.live c (n' c z)
  · rw [e]
    intro z
    rcases List.mem_append.mp z with z | z
    · exact hc z
    · rw [n c z] at h
      cases h
theorem Ext.get (a : Ext mu H mu' H') {n : Nat} {b : Addr} (h : mu[n]? = some b) : mu'[n]? = some b := by
  obtain ⟨l, rfl, _⟩ := a.pre
  obtain ⟨hl, e⟩ := List.getElem?_eq_some_iff.mp h
  rw [List.getElem?_append_left hl]
  exact h
theorem sqT_t {a : Addr} {vs : List V} {o : Obj} (h : H a = some (.frz o (.tup vs))) : SqT K H a vs := .inl (.inr ⟨o, h⟩)
theorem sqT_k {a : Addr} {vs : List V} (h : SqK K a vs) : SqT K H a vs := .inr (let ⟨o, its, n, h1, h2, _, h3⟩ := h; ⟨o, its, n, h1, h2, h3⟩)
theorem Ext.sqT (e : Ext mu H mu' H') {a : Addr} {vs : List V} (h : SqT K H a vs) : SqT K H' a vs := by
  rcases h with (h | ⟨o, h⟩) | h
  · exact .inl (.inl (e.tups _ _ h))
  · exact .inl (.inr ⟨o, e.frzs _ _ _ h⟩)
  · exact .inr h
theorem Ext.sqR (e : Ext mu H mu' H') {a : Addr} {vs : List V} (h : SqR K H a vs) : SqR K H' a vs := by
  rcases h with ⟨o, h⟩ | h
  · exact .inl ⟨o, e.frzs _ _ _ h⟩
  · exact .inr h
mutual
theorem Rep.mono (e : Ext mu H mu' H') : ∀ {v : V} {d : D}, Rep K mu H v d → Rep K mu' H' v d
  | _, _, .non => .non
  | _, _, .bl b => .bl b
  | _, _, .int i => .int i
  | _, _, .str x => .str x
  | _, _, .ty n => .ty n
  | _, _, .adr a => .adr a
  | _, _, .loc h => .loc (e.get h)
  | _, _, .tup hd h r => .tup hd (e.frzs _ _ _ h) (Reps.mono e r)
  | _, _, .ktp h r => .ktp h (Reps.mono e r)
  | _, _, .ttp h r => .ttp (e.tups _ _ h) (Reps.mono e r)
  | _, _, .rls h r => .rls (e.sqR h) (Reps.mono e r)
  | _, _, .exn h0 h1 h2 h3 h4 h5 r => .exn h0 (e.exts _ _ h1) h2 h3 h4 (e.xds _ _ h5) (Reps.mono e r)
theorem Reps.mono (e : Ext mu H mu' H') : ∀ {vs : List V} {ds : List D}, Reps K mu H vs ds → Reps K mu' H' vs ds
  | _, _, .nil => .nil
  | _, _, .cons r t => .cons (Rep.mono e r) (Reps.mono e t)
end
theorem RepO.mono (e : Ext mu H mu' H') {v : Option V} {d : Option D} (h : RepO K mu H v d) : RepO K mu' H' v d := by
  cases d with
  | none => cases v <;> trivial
  | some d =>
    cases v with
    | none => exact h
    | some v => exact Rep.mono e h
theorem ERep.mono (e : Ext mu H mu' H') : ∀ {s : L2.St} {r : Env}, ERep K mu H s r → ERep K mu' H' s r
  | _, _, .nil => .nil
  | _, _, .cons h t => .cons (RepO.mono e h) (ERep.mono e t)
theorem KReps.mono {κ : Type} (e : Ext mu H mu' H') : ∀ {s : List (κ × V)} {r : List (κ × D)}, KReps K mu H s r → KReps K mu' H' s r
  | _, _, .nil => .nil
  | _, _, .cons h t => .cons ⟨h.1, Rep.mono e h.2⟩ (KReps.mono e t)
theorem Reps.length : ∀ {vs : List V} {ds : List D}, Reps K mu H vs ds → vs.length = ds.length
  | _, _, .nil => rfl
  | _, _, .cons _ t => by simp [Reps.length t]
theorem ERep.length : ∀ {s : L2.St} {r : Env}, ERep K mu H s r → s.length = r.length
  | _, _, .nil => rfl
  | _, _, .cons _ t => by simp [ERep.length t]
theorem ERep.get : ∀ {s : L2.St} {r : Env} {i : Nat} {d : D}, ERep K mu H s r → r[i]? = some (some d) → ∃ v, s[i]? = some (some v) ∧ Rep K mu H v d
  | _, _, _, _, .nil, e => by simp at e
  | some v :: _, _, 0, d, .cons h _, e => by
    simp at e
    subst e
    exact ⟨v, rfl, h⟩
  | none :: _, _, 0, d, .cons h _, e => by
    simp at e
    subst e
    exact h.elim
  | _, _, i + 1, d, .cons _ t, e => by
    obtain ⟨v, h1, h2⟩ := ERep.get (i := i) (d := d) t (by simpa using e)
    exact ⟨v, by simpa using h1, h2⟩
theorem ERep.set {v : V} {d : D} (h : Rep K mu H v d) : ∀ {s : L2.St} {r : Env} (i : Nat), ERep K mu H s r → ERep K mu H (s.set i (some v)) (r.set i (some d))
  | _, _, _, .nil => .nil
  | _, _, 0, .cons _ t => .cons h t
  | _, _, i + 1, .cons q t => .cons q (ERep.set h i t)
theorem Reps.get : ∀ {vs : List V} {ds : List D} {i : Nat} {d : D}, Reps K mu H vs ds → ds[i]? = some d → ∃ v, vs[i]? = some v ∧ Rep K mu H v d
  | _, _, _, _, .nil, e => by simp at e
  | _, _, 0, _, .cons h _, e => by
    simp at e
    subst e
    exact ⟨_, rfl, h⟩
  | _, _, i + 1, d, .cons _ t, e => by
    obtain ⟨v, h1, h2⟩ := Reps.get (i := i) (d := d) t (by simpa using e)
    exact ⟨v, by simpa using h1, h2⟩
theorem Reps.append : ∀ {vs ws : List V} {ds es : List D}, Reps K mu H vs ds → Reps K mu H ws es → Reps K mu H (vs ++ ws) (ds ++ es)
  | _, _, _, _, .nil, s => s
  | _, _, _, _, .cons r t, s => .cons r (Reps.append t s)
theorem Reps.set {v : V} {d : D} (h : Rep K mu H v d) : ∀ {vs : List V} {ds : List D} (i : Nat), Reps K mu H vs ds → Reps K mu H (vs.set i v) (ds.set i d)
  | _, _, _, .nil => .nil
  | _, _, 0, .cons _ t => .cons h t
  | _, _, i + 1, .cons q t => .cons q (Reps.set h i t)
theorem Reps.take : ∀ {vs : List V} {ds : List D} (n : Nat), Reps K mu H vs ds → Reps K mu H (vs.take n) (ds.take n)
  | _, _, 0, _ => .nil
  | _, _, _ + 1, .nil => .nil
  | _, _, n + 1, .cons r t => .cons r (Reps.take n t)
theorem Reps.drop : ∀ {vs : List V} {ds : List D} (n : Nat), Reps K mu H vs ds → Reps K mu H (vs.drop n) (ds.drop n)
  | _, _, 0, r => r
  | _, _, _ + 1, .nil => .nil
  | _, _, n + 1, .cons _ t => Reps.drop n t
theorem MoRep.mono (e : Ext mu H mu' H') {a : Addr} (hs : H' a = H a) : ∀ {o : MO}, MoRep K mu H a o → MoRep K mu' H' a o
  | .lst _, ⟨vs, h, r⟩ => ⟨vs, hs.trans h, Reps.mono e r⟩
  | .dct _, ⟨vs, h, r⟩ => ⟨vs, hs.trans h, KReps.mono e r⟩
  | .dcT _, ⟨vs, h, r⟩ => ⟨vs, hs.trans h, KReps.mono e r⟩
  | .ins _ _, ⟨C, dx, vs, hc, h, r⟩ => ⟨C, dx, vs, hc, hs.trans h, KReps.mono e r⟩
  | .tab _ _, ⟨ha, ps, h1, h2, h3⟩ => by
    refine ⟨ha, ps, hs.trans h1, h2, fun pos cv hc => ?_⟩
    obtain ⟨c, e1, e2⟩ := h3 pos cv hc
    exact ⟨c, e1, e.exts _ _ e2⟩
theorem MoRep.some {a : Addr} : ∀ {o : MO}, MoRep K mu H a o → ∃ u, H a = some u
  | .lst _, ⟨_, h, _⟩ => ⟨_, h⟩
  | .dct _, ⟨_, h, _⟩ => ⟨_, h⟩
  | .dcT _, ⟨_, h, _⟩ => ⟨_, h⟩
  | .ins _ _, ⟨_, _, _, _, h, _⟩ => ⟨_, h⟩
  | .tab _ _, ⟨_, _, h, _⟩ => ⟨_, h⟩
theorem HRep.at {S : Sto} (h : HRep K mu H S) {n : Nat} {o : MO} (e : S[n]? = some o) : ∃ a, mu[n]? = some a ∧ MoRep K mu H a o := by
  have hl : n < mu.length := by rw [← h.len]; exact (List.getElem?_eq_some_iff.mp e).1
  exact ⟨mu[n], List.getElem?_eq_getElem hl, h.ob n o _ e (List.getElem?_eq_getElem hl)⟩
theorem HRep.obj {S : Sto} (h : HRep K mu H S) {n : Nat} {a : Addr} (e : mu[n]? = some a) : ∃ o, S[n]? = some o ∧ MoRep K mu H a o := by
  have hl : n < S.length := by rw [h.len]; exact (List.getElem?_eq_some_iff.mp e).1
  exact ⟨S[n], List.getElem?_eq_getElem hl, h.ob n _ a (List.getElem?_eq_getElem hl) e⟩
theorem HRep.old {S : Sto} (h : HRep K mu H S) {p : Addr} (hp : H p = none) : p ∉ mu := fun hm => by
  obtain ⟨n, e⟩ := List.getElem?_of_mem hm
  obtain ⟨o, _, q⟩ := h.obj e
  obtain ⟨u, e'⟩ := q.some
  rw [hp] at e'
  cases e'
theorem NdefX'.upd_none {H : Hp} {a b : Addr} {o : HO} (e : upd H a o b = none) : H b = none := by
  unfold upd at e
  split at e
  · cases e
  · exact e
theorem ext_tup {p : Addr} {u : HO} (hp : H p = none) : Ext mu H mu (upd H p u) :=
  ⟨⟨[], by simp, fun _ z => nomatch z⟩, fun a h => NdefX'.upd_none h, fun a o _ h => by rw [upd_ne (ne_of_none h hp)]; exact h, fun a o h => by rw [upd_ne (ne_of_none h hp)]; exact h, fun a o h => by rw [upd_ne (ne_of_none h hp)]; exact h,
    fun a ys h => by rw [upd_ne (ne_of_none h hp)]; exact h, fun a o u h => by rw [upd_ne (ne_of_none h hp)]; exact h⟩
/-- a new tuple -/
theorem HRep.tup {S : Sto} {p : Addr} {u : HO} (h : HRep K mu H S) (hp : H p = none) : HRep K mu (upd H p u) S :=
  ⟨h.len, h.nd, fun n o a e e' => (h.ob n o a e e').mono (ext_tup hp) (upd_ne fun z => h.old hp (z ▸ List.mem_of_getElem? e'))⟩
theorem ext_new {p : Addr} {u : HO} (hp : H p = none) : Ext mu H (mu ++ [p]) (upd H p u) :=
  ⟨⟨[p], rfl, fun a z => by
    rw [List.mem_singleton] at z
    subst z
    exact hp⟩, fun a h => NdefX'.upd_none h, fun a o _ h => by rw [upd_ne (ne_of_none h hp)]; exact h, fun a o h => by rw [upd_ne (ne_of_none h hp)]; exact h, fun a o h => by rw [upd_ne (ne_of_none h hp)]; exact h,
    fun a ys h => by rw [upd_ne (ne_of_none h hp)]; exact h, fun a o u h => by rw [upd_ne (ne_of_none h hp)]; exact h⟩
/-- a new object of the store -/
theorem HRep.new {S : Sto} {p : Addr} {u : HO} {o : MO} (h : HRep K mu H S) (hp : H p = none) (q : MoRep K (mu ++ [p]) (upd H p u) p o) : HRep K (mu ++ [p]) (upd H p u) (S ++ [o]) := by
  have hne := h.old hp
  refine ⟨by simp [h.len], ?_, fun n o' a e e' => ?_⟩
  · rw [List.nodup_append]
    exact ⟨h.nd, by simp, fun x hx y hy => by
      simp at hy
      subst hy
      exact fun z => hne (z ▸ hx)⟩
  · by_cases hn : n < S.length
    · rw [List.getElem?_append_left hn] at e
      rw [List.getElem?_append_left (by rw [← h.len]; exact hn)] at e'
      exact (h.ob n o' a e e').mono (ext_new hp) (upd_ne fun z => hne (z ▸ List.mem_of_getElem? e'))
    · have hn' : n = S.length := by
        have := (List.getElem?_eq_some_iff.mp e).1
        simp at this
        omega
      subst hn'
      simp at e
      rw [h.len] at e'
      simp at e'
      subst e e'
      exact q
/-- a thing that is changed in place -/
def Chg : HO → Prop
  | .lst _ | .dK _ | .dT _ | .ins _ _ _ => True
  | _ => False
theorem ext_put {p : Addr} {n : Nat} {u u' : HO} (hn : mu[n]? = some p) (hp : H p = some u') (hc : Chg u') : Ext mu H mu (upd H p u) := by
  have ne : ∀ {a : Addr} {o : HO}, H a = some o → ¬ Chg o → a ≠ p := fun {a o} e c z => by
    subst z
    rw [hp] at e
    cases e
    exact c hc
  refine ⟨⟨[], by simp, fun _ z => nomatch z⟩, fun a h => NdefX'.upd_none h, fun a o ha h => ?_, fun a o h => ?_, fun a o h => ?_, fun a o h => ?_, fun a o x h => ?_⟩
  · have z : a ≠ p := fun z => ha (by rw [z]; exact List.mem_of_getElem? hn)
    rw [upd_ne z]
    exact h
  all_goals
    rw [upd_ne (ne h id)]
    exact h
/-- an object of the store is changed -/
theorem HRep.put {S : Sto} {p : Addr} {n : Nat} {u u' : HO} {o : MO} (h : HRep K mu H S) (hn : mu[n]? = some p) (e : Ext mu H mu (upd H p u)) (q : MoRep K mu (upd H p u) p o) : HRep K mu (upd H p u) (S.set n o) := by
  refine ⟨by simp [h.len], h.nd, fun k o' a e1 e2 => ?_⟩
  by_cases hk : k = n
  · subst hk
    rw [hn] at e2
    cases e2
    have hl : k < S.length := by rw [h.len]; exact (List.getElem?_eq_some_iff.mp hn).1
    rw [List.getElem?_set_self hl] at e1
    cases e1
    exact q
  · rw [List.getElem?_set_ne (Ne.symm hk)] at e1
    refine (h.ob k o' a e1 e2).mono e (upd_ne fun z => hk ?_)
    subst z
    exact nodup_ix' h.nd e2 hn
where
  nodup_ix' {l : List Addr} (hN : l.Nodup) {i j : Nat} {x : Addr} (a : l[i]? = some x) (b : l[j]? = some x) : i = j := by
    obtain ⟨h1, e1⟩ := List.getElem?_eq_some_iff.mp a
    obtain ⟨h2, e2⟩ := List.getElem?_eq_some_iff.mp b
    exact (List.getElem_inj hN).mp (e1.trans e2.symm)
end
end Fa
namespace Fa
open PySem PySem.Spec PyProof.Rows L2
/-! ### what is wanted of a result -/
def Post {α : Type} (K : PySem.W.Frag) (W : WX) (σ : L2.St) (mu : List Addr) (H : Hp) (Q : α → Sto → List Addr → Hp → Prop) : Res α → Prop
  | .ok a S => ∀ mu' H', Ext mu H mu' H' → HRep K mu' H' S → Q a S mu' H'
  | .err x S => ∀ mu' H' cls dd, Ext mu H mu' H' → HRep K mu' H' S → XRep K mu' H' cls dd x → W cls dd σ H'
  | .bad => False
def PostO (K : PySem.W.Frag) (W : WX) (D : Ends) (mu : List Addr) (H : Hp) : Out → Prop
  | .nx r S => ∀ mu' H' σ', Ext mu H mu' H' → HRep K mu' H' S → ERep K mu' H' σ' r → D.nx σ' H'
  | .bk r S => ∀ mu' H' σ', Ext mu H mu' H' → HRep K mu' H' S → ERep K mu' H' σ' r → D.bk σ' H'
  | .ct r S => ∀ mu' H' σ', Ext mu H mu' H' → HRep K mu' H' S → ERep K mu' H' σ' r → D.ct σ' H'
  | .rt d S => ∀ mu' H' v, Ext mu H mu' H' → HRep K mu' H' S → Rep K mu' H' v d → D.rt v H'
  | .ex x r S => ∀ mu' H' σ' cls dd, Ext mu H mu' H' → HRep K mu' H' S → ERep K mu' H' σ' r → XRep K mu' H' cls dd x → W cls dd σ' H'
  | .bad => False
section
variable {α β : Type} {K : PySem.W.Frag} {W : WX} {σ : L2.St} {mu mu' : List Addr} {H H' : Hp} {D : Ends}
theorem Post.later {Q : α → Sto → List Addr → Hp → Prop} (e : Ext mu H mu' H') : ∀ {r : Res α}, Post K W σ mu H Q r → Post K W σ mu' H' Q r
  | .ok _ _, h => fun m2 H2 e2 => h m2 H2 (e.trans e2)
  | .err _ _, h => fun m2 H2 c d e2 => h m2 H2 c d (e.trans e2)
  | .bad, h => h
theorem Post.imp {Q Q' : α → Sto → List Addr → Hp → Prop} : ∀ {r : Res α}, Post K W σ mu H Q r → (∀ a S mu' H', Ext mu H mu' H' → HRep K mu' H' S → Q a S mu' H' → Q' a S mu' H') → Post K W σ mu H Q' r
  | .ok _ _, h, f => fun m2 H2 e2 r2 => f _ _ _ _ e2 r2 (h m2 H2 e2 r2)
  | .err _ _, h, _ => h
  | .bad, h, _ => h
theorem Post.bnd {Q : β → Sto → List Addr → Hp → Prop} {m : M α} {f : α → M β} {S : Sto} (h : Post K W σ mu H Q (bnd m f S)) : Post K W σ mu H (fun a S' mu' H' => Post K W σ mu' H' Q (f a S')) (m S) := by
  unfold Fa.bnd at h
  cases e : m S with
  | ok a S' => rw [e] at h; exact fun m2 H2 e2 _ => h.later e2
  | err x S' => rw [e] at h; exact h
  | bad => rw [e] at h; exact h
theorem PostO.later (e : Ext mu H mu' H') : ∀ {r : Out}, PostO K W D mu H r → PostO K W D mu' H' r
  | .nx _ _, h => fun m2 H2 s e2 => h m2 H2 s (e.trans e2)
  | .bk _ _, h => fun m2 H2 s e2 => h m2 H2 s (e.trans e2)
  | .ct _ _, h => fun m2 H2 s e2 => h m2 H2 s (e.trans e2)
  | .rt _ _, h => fun m2 H2 s e2 => h m2 H2 s (e.trans e2)
  | .ex _ _ _, h => fun m2 H2 s c d e2 => h m2 H2 s c d (e.trans e2)
  | .bad, h => h
end
/-! ### readings -/
def rdE (K : PySem.W.Frag) (W : WX) (m : Env → M D) : TE := fun σ H Q => ∃ r mu S, HRep K mu H S ∧ ERep K mu H σ r ∧ Post K W σ mu H (fun d _ mu' H' => ∀ v, Rep K mu' H' v d → Q v H') (m r S)
def rdT (K : PySem.W.Frag) (W : WX) (m : Env → M Bool) : TT := fun σ H Q => ∃ r mu S, HRep K mu H S ∧ ERep K mu H σ r ∧ Post K W σ mu H (fun b _ _ H' => Q b H') (m r S)
def rdA (K : PySem.W.Frag) (W : WX) (m : Env → M (List D)) : TA := fun σ H Q => ∃ r mu S, HRep K mu H S ∧ ERep K mu H σ r ∧ Post K W σ mu H (fun ds _ mu' H' => ∀ vs, Reps K mu' H' vs ds → Q vs H') (m r S)
def rdS (K : PySem.W.Frag) (W : WX) (m : Env → Sto → Out) : TS := fun D σ H => ∃ r mu S, HRep K mu H S ∧ ERep K mu H σ r ∧ PostO K W D mu H (m r S)
/-- simulations -/
abbrev SE (X : Cx) (W : WX) (e : Expr) (m : Env → M D) : Prop := PE X e (rdE X.K W m)
abbrev ST (X : Cx) (W : WX) (e : Expr) (m : Env → M Bool) : Prop := PT X e (rdT X.K W m)
abbrev SW (X : Cx) (W : WX) (e : Expr) (m : Env → M Bool) : Prop := PW X e (rdT X.K W m)
abbrev SA (X : Cx) (W : WX) (es : List Expr) (m : Env → M (List D)) : Prop := PA X es (rdA X.K W m)
abbrev SS (X : Cx) (W : WX) (st : Stmt) (m : Env → Sto → Out) : Prop := PS X st (rdS X.K W m)
abbrev SB (X : Cx) (W : WX) (st : List Stmt) (m : Env → Sto → Out) : Prop := PSs X st (rdS X.K W m)
theorem peI {X : Cx} {e : Expr} {t t' : TE} (h : PE X e t) (i : ∀ σ H Q, t' σ H Q → t σ H Q) : PE X e t' := ⟨fun p s σ H Q I q => h.run p s σ H Q I (i σ H Q q)⟩
theorem ptI {X : Cx} {e : Expr} {t t' : TT} (h : PT X e t) (i : ∀ σ H Q, t' σ H Q → t σ H Q) : PT X e t' := ⟨fun p s σ H Q I q => h.run p s σ H Q I (i σ H Q q)⟩
theorem pwI {X : Cx} {e : Expr} {t t' : TT} (h : PW X e t) (i : ∀ σ H Q, t' σ H Q → t σ H Q) : PW X e t' := ⟨fun w p s σ H Q I q => h.run w p s σ H Q I (i σ H Q q)⟩
theorem paI {X : Cx} {e : List Expr} {t t' : TA} (h : PA X e t) (i : ∀ σ H Q, t' σ H Q → t σ H Q) : PA X e t' := ⟨fun w p s σ H Q I q => h.run w p s σ H Q I (i σ H Q q)⟩
theorem psI {X : Cx} {e : Stmt} {t t' : TS} (h : PS X e t) (i : ∀ D σ H, t' D σ H → t D σ H) : PS X e t' := ⟨fun p s σ H D I q => h.run p s σ H D I (i D σ H q)⟩
theorem pssI {X : Cx} {e : List Stmt} {t t' : TS} (h : PSs X e t) (i : ∀ D σ H, t' D σ H → t D σ H) : PSs X e t' := ⟨fun p s σ H D I q => h.run p s σ H D I (i D σ H q)⟩
/-! ### combinators -/
def mVar (i : Nat) : Env → M D := fun r => match r[i]? with
  | some (some d) => ret d
  | _ => fail
def mC (d : D) : Env → M D := fun _ => ret d
def m1 (f : D → M D) (a : Env → M D) : Env → M D := fun r => bnd (a r) f
def m2 (f : D → D → M D) (a b : Env → M D) : Env → M D := fun r => bnd (a r) fun x => bnd (b r) fun y => f x y
def mNil : Env → M (List D) := fun _ => ret []
def mCons (a : Env → M D) (b : Env → M (List D)) : Env → M (List D) := fun r => bnd (a r) fun x => bnd (b r) fun xs => ret (x :: xs)
def mA (f : List D → M D) (a : Env → M (List D)) : Env → M D := fun r => bnd (a r) f
def tupD (ds : List D) : M D := if ds.length ≤ sizeLine then ret (.tup ds) else fail
def lstD (ds : List D) : M D := fun S => if ds.length ≤ sizeLine then .ok (.loc S.length) (S ++ [.lst ds]) else .bad
def mIf (c : Env → M Bool) (a b : Env → M D) : Env → M D := fun r => bnd (c r) fun k => if k = true then a r else b r
def isBl : D → M Bool
  | .bl b => ret b
  | _ => fail
def tOf (a : Env → M D) : Env → M Bool := fun r => bnd (a r) isBl
def tNt (a : Env → M Bool) : Env → M Bool := fun r => bnd (a r) fun b => ret (!b)
def tAn (a b : Env → M Bool) : Env → M Bool := fun r => bnd (a r) fun k => if k = true then b r else ret false
def tOr (a b : Env → M Bool) : Env → M Bool := fun r => bnd (a r) fun k => if k = true then ret true else b r
def mNot (a : Env → M D) : Env → M D := fun r => bnd (a r) fun x => bnd (isBl x) fun b => ret (.bl (!b))
def mAnd (a b : Env → M D) : Env → M D := fun r => bnd (a r) fun x => bnd (isBl x) fun k => if k = true then b r else ret (.bl false)
def mOr (a b : Env → M D) : Env → M D := fun r => bnd (a r) fun x => bnd (isBl x) fun k => if k = true then ret (.bl true) else b r
section
variable {X : Cx} {W : WX} {a b : Expr} {es : List Expr} {pos : Pos} {ma mb : Env → M D} {ms : Env → M (List D)}
theorem se_var (i : Nat) {x : Str} (h : PE X (.Name x pos) (tVar i)) : SE X W (.Name x pos) (mVar i) := peI h fun σ H Q q => by
  obtain ⟨r, mu, S, hS, he, hp⟩ := q
  unfold mVar at hp
  cases e : r[i]? with
  | none => rw [e] at hp; exact hp.elim
  | some o =>
    cases o with
    | none => rw [e] at hp; exact hp.elim
    | some d =>
      rw [e] at hp
      obtain ⟨v, hv, rv⟩ := he.get e
      exact ⟨v, hv, hp mu H Ext.refl hS v rv⟩
theorem se_c {v : V} {d : D} (h : PE X a (tC v)) (rv : ∀ K mu H, Rep K mu H v d) : SE X W a (mC d) := peI h fun σ H Q q => by
  obtain ⟨r, mu, S, hS, he, hp⟩ := q
  exact hp mu H Ext.refl hS v (rv _ _ _)
theorem se_int {i j} : SE X W (.Constant (.int i) j pos) (mC (.int i)) := se_c pe_int fun _ _ _ => .int i
theorem se_bl {i j} : SE X W (.Constant (.bool i) j pos) (mC (.bl i)) := se_c pe_bl fun _ _ _ => .bl i
theorem se_non {j} : SE X W (.Constant .none j pos) (mC .non) := se_c pe_non fun _ _ _ => .non
theorem se_str {i j} : SE X W (.Constant (.str i) j pos) (mC (.str i)) := se_c pe_str fun _ _ _ => .str i
/-- an operation on two values -/
def Op2 (K : PySem.W.Frag) (r : R2) (f : D → D → M D) : Prop := ∀ (W : WX) (σ : L2.St) mu H S x y v w (Q : VK), HRep K mu H S → Rep K mu H v x → Rep K mu H w y → Post K W σ mu H (fun d _ mu' H' => ∀ u, Rep K mu' H' u d → Q u H') (f x y S) → r v w H Q
def Op1 (K : PySem.W.Frag) (r : V → Hp → VK → Prop) (f : D → M D) : Prop := ∀ (W : WX) (σ : L2.St) mu H S x v (Q : VK), HRep K mu H S → Rep K mu H v x → Post K W σ mu H (fun d _ mu' H' => ∀ u, Rep K mu' H' u d → Q u H') (f x S) → r v H Q
def OpN (K : PySem.W.Frag) (r : List V → Hp → VK → Prop) (f : List D → M D) : Prop := ∀ (W : WX) (σ : L2.St) mu H S xs vs (Q : VK), HRep K mu H S → Reps K mu H vs xs → Post K W σ mu H (fun d _ mu' H' => ∀ u, Rep K mu' H' u d → Q u H') (f xs S) → r vs H Q
theorem two {f : D → D → M D} {r : R2} (ho : Op2 X.K r f) {σ : L2.St} {H : Hp} {Q : VK} (q : rdE X.K W (m2 f ma mb) σ H Q) : rdE X.K W ma σ H fun x H1 => rdE X.K W mb σ H1 fun y H2 => r x y H2 Q := by
  obtain ⟨r, mu, S, hS, he, hp⟩ := q
  refine ⟨r, mu, S, hS, he, hp.bnd.imp fun x S1 mu1 H1 ex hS1 q1 v rv => ?_⟩
  refine ⟨r, mu1, S1, hS1, he.mono ex, q1.bnd.imp fun y S2 mu2 H2 ex2 hS2 q2 w rw => ?_⟩
  exact ho W σ mu2 H2 S2 x y v w Q hS2 (rv.mono ex2) rw q2
theorem se_op {op : Operator} {f : D → D → M D} {r : R2} (h : OpR X (binaryOp op) r) (ho : Op2 X.K r f) (ha : SE X W a ma) (hb : SE X W b mb) : SE X W (.BinOp a op b pos) (m2 f ma mb) := peI (pe_op h ha hb) fun σ H Q q => two ho q
theorem se_cmp {op : CmpOp} {f : D → D → M D} {r : R2} (h : OpR X (compareOp op) r) (ho : Op2 X.K r f) (ha : SE X W a ma) (hb : SE X W b mb) (hm : behindInMarks op b = false) : SE X W (.Compare a [op] [b] pos) (m2 f ma mb) := peI (pe_cmpR h ha hb hm) fun σ H Q q => two ho q
theorem se_ix {f : D → D → M D} {r : R2} (h : IxR X r) (ho : Op2 X.K r f) (ha : SE X W a ma) (hb : SE X W b mb) (hs : PlainIx b) : SE X W (.Subscript a b pos) (m2 f ma mb) := peI (pe_ix h ha hb hs) fun σ H Q q => two ho q
theorem se_un {op : UnaryOp} {f : D → M D} {r : V → Hp → VK → Prop} (h : UnR X (unaryOp op) r) (ho : Op1 X.K r f) (ha : SE X W a ma) : SE X W (.UnaryOp op a pos) (m1 f ma) := peI (pe_un h ha) fun σ H Q q => by
  obtain ⟨r, mu, S, hS, he, hp⟩ := q
  exact ⟨r, mu, S, hS, he, hp.bnd.imp fun x S1 mu1 H1 ex hS1 q1 v rv => ho W σ mu1 H1 S1 x v Q hS1 rv q1⟩
theorem sa_nil : SA X W [] mNil := paI pa_nil fun σ H Q q => by
  obtain ⟨r, mu, S, hS, he, hp⟩ := q
  exact hp mu H Ext.refl hS [] .nil
theorem sa_cons (ha : SE X W a ma) (hr : SA X W es ms) (hs : starEach (a :: es) X.env = (false, eval a X.env) :: starEach es X.env := by rfl) : SA X W (a :: es) (mCons ma ms) := paI (pa_cons ha hr hs) fun σ H Q q => by
  obtain ⟨r, mu, S, hS, he, hp⟩ := q
  refine ⟨r, mu, S, hS, he, hp.bnd.imp fun x S1 mu1 H1 ex hS1 q1 v rv => ?_⟩
  refine ⟨r, mu1, S1, hS1, he.mono ex, q1.bnd.imp fun y S2 mu2 H2 ex2 hS2 q2 w rw => ?_⟩
  exact q2 mu2 H2 Ext.refl hS2 _ (.cons (rv.mono ex2) rw)
theorem args {f : List D → M D} {r : List V → Hp → VK → Prop} (ho : OpN X.K r f) {σ : L2.St} {H : Hp} {Q : VK} (q : rdE X.K W (mA f ms) σ H Q) : rdA X.K W ms σ H fun xs H1 => r xs H1 Q := by
  obtain ⟨r, mu, S, hS, he, hp⟩ := q
  exact ⟨r, mu, S, hS, he, hp.bnd.imp fun x S1 mu1 H1 ex hS1 q1 v rv => ho W σ mu1 H1 S1 x v Q hS1 rv q1⟩
theorem se_tup {x1} (h : SA X W es ms) : SE X W (.Tuple es x1 pos) (mA tupD ms) := peI (pe_tupF h) fun σ H Q q => args (r := fun xs H1 Q => xs.length ≤ sizeLine ∧ NewF H1 xs Q) (fun W σ mu H S xs vs Q hS hr hp => by
  unfold tupD at hp
  by_cases hl : xs.length ≤ sizeLine
  · rw [if_pos hl] at hp
    exact ⟨by rw [hr.length]; exact hl, fun p o hn hd => hp mu _ (ext_tup hn) (hS.tup hn) _ (.tup hd upd_same (hr.mono (ext_tup hn)))⟩
  · rw [if_neg hl] at hp
    exact hp.elim) q
theorem se_lst (h : SA X W es ms) : SE X W (.List es pos) (mA lstD ms) := peI (pe_lst h) fun σ H Q q => args (r := fun xs H1 Q => xs.length ≤ sizeLine ∧ ∀ p, H1 p = none → Q (.ref p) (upd H1 p (.lst xs))) (fun W σ mu H S xs vs Q hS hr hp => by
  unfold lstD at hp
  by_cases hl : xs.length ≤ sizeLine
  · rw [if_pos hl] at hp
    refine ⟨by rw [hr.length]; exact hl, fun p hn => hp _ _ (ext_new hn) (hS.new hn ⟨vs, upd_same, hr.mono (ext_new hn)⟩) _ (.loc ?_)⟩
    rw [hS.len]
    simp
  · rw [if_neg hl] at hp
    exact hp.elim) q
/-! tests -/
theorem st_of (ha : SE X W a ma) (he : ∀ whole, isTrue a X.env whole = (do let v ← whole; standAt a.pos; holding [v] (truthy v)) := by intro _; rfl) : ST X W a (tOf ma) := ptI (pt_val ha he) fun σ H Q q => by
  obtain ⟨r, mu, S, hS, he, hp⟩ := q
  refine ⟨r, mu, S, hS, he, hp.bnd.imp fun x S1 mu1 H1 ex hS1 q1 v rv => ?_⟩
  cases rv <;> first | exact q1.elim | exact ⟨_, rfl, q1 mu1 H1 Ext.refl hS1⟩
theorem st_cmp {op : CmpOp} {f : D → D → M D} {r : R2} (h : OpR X (compareOp op) r) (ho : Op2 X.K r f) (ha : SE X W a ma) (hb : SE X W b mb) (hm : behindInMarks op b = false) : ST X W (.Compare a [op] [b] pos) (tOf (m2 f ma mb)) := ptI (pt_cmpR h ha hb hm) fun σ H Q q => by
  refine two (r := r) (Q := fun x H' => ∃ k, x = .bl k ∧ Q k H') ho ?_
  obtain ⟨r, mu, S, hS, he, hp⟩ := q
  refine ⟨r, mu, S, hS, he, hp.bnd.imp fun x S1 mu1 H1 ex hS1 q1 v rv => ?_⟩
  cases rv <;> first | exact q1.elim | exact ⟨_, rfl, q1 mu1 H1 Ext.refl hS1⟩
variable {ta tb : Env → M Bool} {rest : List Expr}
theorem st_not (ha : ST X W a ta) : ST X W (.UnaryOp .Not a pos) (tNt ta) := ptI (pt_not ha) fun σ H Q q => by
  obtain ⟨r, mu, S, hS, he, hp⟩ := q
  exact ⟨r, mu, S, hS, he, hp.bnd.imp fun x S1 mu1 H1 ex hS1 q1 => q1 mu1 H1 Ext.refl hS1⟩
theorem sw_and1 (ha : ST X W a ta) : SW X W (.BoolOp .And [a] pos) ta := pw_and1 ha
theorem sw_or1 (ha : ST X W a ta) : SW X W (.BoolOp .Or [a] pos) ta := pw_or1 ha
theorem sw_and (ha : ST X W a ta) (hb : SW X W (.BoolOp .And (b :: rest) pos) tb) : SW X W (.BoolOp .And (a :: b :: rest) pos) (tAn ta tb) := pwI (pw_and ha hb) fun σ H Q q => by
  obtain ⟨r, mu, S, hS, he, hp⟩ := q
  refine ⟨r, mu, S, hS, he, hp.bnd.imp fun k S1 mu1 H1 ex hS1 q1 => ?_⟩
  cases k with
  | true => rw [if_pos rfl] at q1 ⊢; exact ⟨r, mu1, S1, hS1, he.mono ex, q1⟩
  | false => rw [if_neg Bool.false_ne_true] at q1 ⊢; exact q1 mu1 H1 Ext.refl hS1
theorem sw_or (ha : ST X W a ta) (hb : SW X W (.BoolOp .Or (b :: rest) pos) tb) : SW X W (.BoolOp .Or (a :: b :: rest) pos) (tOr ta tb) := pwI (pw_or ha hb) fun σ H Q q => by
  obtain ⟨r, mu, S, hS, he, hp⟩ := q
  refine ⟨r, mu, S, hS, he, hp.bnd.imp fun k S1 mu1 H1 ex hS1 q1 => ?_⟩
  cases k with
  | true => rw [if_pos rfl] at q1 ⊢; exact q1 mu1 H1 Ext.refl hS1
  | false => rw [if_neg Bool.false_ne_true] at q1 ⊢; exact ⟨r, mu1, S1, hS1, he.mono ex, q1⟩
theorem se_if {c : Expr} (hc : ST X W c ta) (ha : SE X W a ma) (hb : SE X W b mb) : SE X W (.IfExp c a b pos) (mIf ta ma mb) := peI (pe_ifExp hc ha hb) fun σ H Q q => by
  obtain ⟨r, mu, S, hS, he, hp⟩ := q
  refine ⟨r, mu, S, hS, he, hp.bnd.imp fun k S1 mu1 H1 ex hS1 q1 => ?_⟩
  cases k with
  | true => rw [if_pos rfl] at q1 ⊢; exact ⟨r, mu1, S1, hS1, he.mono ex, q1⟩
  | false => rw [if_neg Bool.false_ne_true] at q1 ⊢; exact ⟨r, mu1, S1, hS1, he.mono ex, q1⟩
/-! and, or, not as values -/
theorem blOf {σ : L2.St} {mu : List Addr} {H : Hp} {S : Sto} {x : D} {v : V} {f : Bool → M D} {Q : D → Sto → List Addr → Hp → Prop} (rv : Rep X.K mu H v x) (h : Post X.K W σ mu H Q (bnd (isBl x) f S)) : ∃ k, v = .bl k ∧ Post X.K W σ mu H Q (f k S) := by
  cases rv <;> first | exact h.elim | exact ⟨_, rfl, h⟩
theorem se_one {op} (h : SE X W a ma) : SE X W (.BoolOp op [a] pos) ma := pe_one h
theorem se_not (ha : SE X W a ma) : SE X W (.UnaryOp .Not a pos) (mNot ma) := peI (pe_not ha) fun σ H Q q => by
  obtain ⟨r, mu, S, hS, he, hp⟩ := q
  refine ⟨r, mu, S, hS, he, hp.bnd.imp fun x S1 mu1 H1 ex hS1 q1 v rv => ?_⟩
  obtain ⟨k, rfl, q2⟩ := blOf rv q1
  exact ⟨k, rfl, q2 mu1 H1 Ext.refl hS1 _ (.bl _)⟩
theorem se_and (ha : SE X W a ma) (hb : SE X W (.BoolOp .And (b :: rest) pos) mb) : SE X W (.BoolOp .And (a :: b :: rest) pos) (mAnd ma mb) := peI (pe_and ha hb) fun σ H Q q => by
  obtain ⟨r, mu, S, hS, he, hp⟩ := q
  refine ⟨r, mu, S, hS, he, hp.bnd.imp fun x S1 mu1 H1 ex hS1 q1 v rv => ?_⟩
  obtain ⟨k, rfl, q2⟩ := blOf rv q1
  refine ⟨k, rfl, ?_⟩
  cases k with
  | true => rw [if_pos rfl] at q2 ⊢; exact ⟨r, mu1, S1, hS1, he.mono ex, q2⟩
  | false => rw [if_neg Bool.false_ne_true] at q2 ⊢; exact q2 mu1 H1 Ext.refl hS1 _ (.bl _)
theorem se_or (ha : SE X W a ma) (hb : SE X W (.BoolOp .Or (b :: rest) pos) mb) : SE X W (.BoolOp .Or (a :: b :: rest) pos) (mOr ma mb) := peI (pe_or ha hb) fun σ H Q q => by
  obtain ⟨r, mu, S, hS, he, hp⟩ := q
  refine ⟨r, mu, S, hS, he, hp.bnd.imp fun x S1 mu1 H1 ex hS1 q1 v rv => ?_⟩
  obtain ⟨k, rfl, q2⟩ := blOf rv q1
  refine ⟨k, rfl, ?_⟩
  cases k with
  | true => rw [if_pos rfl] at q2 ⊢; exact q2 mu1 H1 Ext.refl hS1 _ (.bl _)
  | false => rw [if_neg Bool.false_ne_true] at q2 ⊢; exact ⟨r, mu1, S1, hS1, he.mono ex, q2⟩
/-! built-ins by name -/
theorem se_callB {x : Str} {p : Pos} {e : Expr} {id : String} {f : List D → M D} {r : List V → Hp → VK → Prop} (hc : CallR X (.builtin id) r) (ho : OpN X.K r f) (hg : Gl X x) (hm : X.mg x = none) (hv : bootBuiltins x = some (.builtin id)) (ha : SA X W (e :: es) ms) (hn : x ≠ "__name__" := by decide) (hdb : (x == ("__debug__" : Str)) = false := by decide)
    (he : starEach (e :: es) X.env = (false, eval e X.env) :: starEach es X.env := by rfl) (hpl : (backTo pos (starEach es X.env)).any (·.1) = false := by rfl) : SE X W (.Call (.Name x p) (e :: es) [] pos) (mA f ms) := peI (pe_callB hc hg hm hv ha hn hdb he hpl) fun σ H Q q => args ho q
theorem se_callTy {x : Str} {p : Pos} {e : Expr} {id : String} {f : List D → M D} {r : List V → Hp → VK → Prop} (hc : CallR X (.type id) r) (ho : OpN X.K r f) (hg : Gl X x) (hm : X.mg x = none) (hv : bootBuiltins x = some (.type id)) (ha : SA X W (e :: es) ms) (hn : x ≠ "__name__" := by decide) (hdb : (x == ("__debug__" : Str)) = false := by decide)
    (he : starEach (e :: es) X.env = (false, eval e X.env) :: starEach es X.env := by rfl) (hpl : (backTo pos (starEach es X.env)).any (·.1) = false := by rfl) : SE X W (.Call (.Name x p) (e :: es) [] pos) (mA f ms) := peI (pe_callTy hc hg hm hv ha hn hdb he hpl) fun σ H Q q => args ho q
end
end Fa
namespace Fa
open PySem PySem.Spec PyProof.Rows L2
/-! ### statements -/
def sNx : Env → Sto → Out := fun r S => .nx r S
def sBk : Env → Sto → Out := fun r S => .bk r S
def sCt : Env → Sto → Out := fun r S => .ct r S
def sBad : Env → Sto → Out := fun _ _ => .bad
def sSeq (a b : Env → Sto → Out) : Env → Sto → Out := fun r S => match a r S with
  | .nx r' S' => b r' S'
  | o => o
def bndO {α : Type} (m : Env → M α) (f : α → Env → Sto → Out) : Env → Sto → Out := fun r S => match m r S with
  | .ok a S' => f a r S'
  | .err x S' => .ex x r S'
  | .bad => .bad
def sEx (m : Env → M D) : Env → Sto → Out := bndO m fun _ r S => .nx r S
def sRet (m : Env → M D) : Env → Sto → Out := bndO m fun d _ S => .rt d S
def sRetN : Env → Sto → Out := fun _ S => .rt .non S
def sIf (c : Env → M Bool) (a b : Env → Sto → Out) : Env → Sto → Out := bndO c fun k r S => if k = true then a r S else b r S
abbrev Tg := D → Env → M Env
def gN (i : Nat) : Tg := fun d r => ret (r.set i (some d))
def gT0 : List D → Env → M Env
  | [], r => ret r
  | _ :: _, _ => fail
def gTc (g : Tg) (k : List D → Env → M Env) : List D → Env → M Env
  | [], _ => fail
  | d :: ds, r => bnd (g d r) fun r' => k ds r'
def gT (k : List D → Env → M Env) : Tg := fun d r => match d with
  | .tup ds => k ds r
  | .ttp ds => k ds r
  | _ => fail
def sAs (m : Env → M D) (g : Tg) : Env → Sto → Out := bndO m fun d r S => match g d r S with
  | .ok r' S' => .nx r' S'
  | .err x S' => .ex x r S'
  | .bad => .bad
section
variable {X : Cx} {W : WX} {e : Expr} {pos : Pos} {m : Env → M D} {c : Env → M Bool} {a b : Env → Sto → Out} {st : Stmt} {rest : List Stmt}
theorem bndO_E {f : D → Env → Sto → Out} {D : Ends} {σ : L2.St} {H : Hp} (q : rdS X.K W (bndO m f) D σ H) : rdE X.K W m σ H fun v H1 => ∃ r mu S d, HRep X.K mu H1 S ∧ ERep X.K mu H1 σ r ∧ Rep X.K mu H1 v d ∧ PostO X.K W D mu H1 (f d r S) := by
  obtain ⟨r, mu, S, hS, he, hp⟩ := q
  refine ⟨r, mu, S, hS, he, ?_⟩
  unfold bndO at hp
  cases e : m r S with
  | ok d S' => rw [e] at hp; exact fun m2 H2 e2 h2 v rv => ⟨r, m2, S', d, h2, he.mono e2, rv, hp.later e2⟩
  | err x S' => rw [e] at hp; exact fun m2 H2 cl dd e2 h2 rx => hp m2 H2 σ cl dd e2 h2 (he.mono e2) rx
  | bad => rw [e] at hp; exact hp
theorem bndO_T {f : Bool → Env → Sto → Out} {D : Ends} {σ : L2.St} {H : Hp} (q : rdS X.K W (bndO c f) D σ H) : rdT X.K W c σ H fun k H1 => ∃ r mu S, HRep X.K mu H1 S ∧ ERep X.K mu H1 σ r ∧ PostO X.K W D mu H1 (f k r S) := by
  obtain ⟨r, mu, S, hS, he, hp⟩ := q
  refine ⟨r, mu, S, hS, he, ?_⟩
  unfold bndO at hp
  cases e : c r S with
  | ok d S' => rw [e] at hp; exact fun m2 H2 e2 h2 => ⟨r, m2, S', h2, he.mono e2, hp.later e2⟩
  | err x S' => rw [e] at hp; exact fun m2 H2 cl dd e2 h2 rx => hp m2 H2 σ cl dd e2 h2 (he.mono e2) rx
  | bad => rw [e] at hp; exact hp
theorem sb_nil : SB X W [] sNx := pssI pss_nil fun D σ H q => by
  obtain ⟨r, mu, S, hS, he, hp⟩ := q
  exact hp mu H σ Ext.refl hS he
theorem sb_cons (h1 : SS X W st a) (h2 : SB X W rest b) : SB X W (st :: rest) (sSeq a b) := pssI (pss_cons h1 h2) fun D σ H q => by
  obtain ⟨r, mu, S, hS, he, hp⟩ := q
  refine ⟨r, mu, S, hS, he, ?_⟩
  unfold sSeq at hp
  cases e : a r S with
  | nx r' S' => rw [e] at hp; exact fun m2 H2 s2 e2 h2 q2 => ⟨r', m2, S', h2, q2, hp.later e2⟩
  | rt d S' => rw [e] at hp; exact hp
  | bk r' S' => rw [e] at hp; exact hp
  | ct r' S' => rw [e] at hp; exact hp
  | ex x r' S' => rw [e] at hp; exact hp
  | bad => rw [e] at hp; exact hp
theorem sb_one (h1 : SS X W st a) : SB X W [st] a := pss_one h1
theorem ss_pass : SS X W (.Pass pos) sNx := psI ps_pass fun D σ H q => by
  obtain ⟨r, mu, S, hS, he, hp⟩ := q
  exact hp mu H σ Ext.refl hS he
theorem ss_break : SS X W (.Break pos) sBk := psI ps_break fun D σ H q => by
  obtain ⟨r, mu, S, hS, he, hp⟩ := q
  exact hp mu H σ Ext.refl hS he
theorem ss_continue : SS X W (.Continue pos) sCt := psI ps_continue fun D σ H q => by
  obtain ⟨r, mu, S, hS, he, hp⟩ := q
  exact hp mu H σ Ext.refl hS he
theorem ss_never : SS X W st sBad := psI ps_never fun D σ H q => by
  obtain ⟨r, mu, S, hS, he, hp⟩ := q
  exact hp
theorem ss_expr (he : SE X W e m) (hs : swapsWith e none pos.line X.env = pure false := by rfl) : SS X W (.Expr e pos) (sEx m) := psI (ps_expr he hs) fun D σ H q => by
  have q1 := bndO_E q
  obtain ⟨r, mu, S, hS, he, hp⟩ := q1
  exact ⟨r, mu, S, hS, he, hp.imp fun d S1 m2 H2 ex h2 q2 v rv => by
    obtain ⟨r', mu', S', d', h1, h3, h4, h5⟩ := q2 v rv
    exact h5 mu' H2 σ Ext.refl h1 h3⟩
theorem ss_ret (he : SE X W e m) : SS X W (.Return (some e) pos) (sRet m) := psI (ps_ret he) fun D σ H q => by
  obtain ⟨r, mu, S, hS, he, hp⟩ := bndO_E q
  exact ⟨r, mu, S, hS, he, hp.imp fun d S1 m2 H2 ex h2 q2 v rv => by
    obtain ⟨r', mu', S', d', h1, h3, h4, h5⟩ := q2 v rv
    exact h5 mu' H2 v Ext.refl h1 h4⟩
theorem ss_retN : SS X W (.Return none pos) sRetN := psI ps_retN fun D σ H q => by
  obtain ⟨r, mu, S, hS, he, hp⟩ := q
  exact hp mu H .non Ext.refl hS .non
theorem ss_if {c' : Expr} {x y : List Stmt} (hc : ST X W c' c) (ha : SB X W x a) (hb : SB X W y b) : SS X W (.If c' x y pos) (sIf c a b) := psI (ps_if hc ha hb) fun D σ H q => by
  obtain ⟨r, mu, S, hS, he, hp⟩ := bndO_T q
  refine ⟨r, mu, S, hS, he, hp.imp fun k S1 m2 H2 ex h2 q2 => ?_⟩
  obtain ⟨r', mu', S', h1, h3, h5⟩ := q2
  cases k with
  | true => rw [if_pos rfl] at h5 ⊢; exact ⟨r', mu', S', h1, h3, h5⟩
  | false => rw [if_neg Bool.false_ne_true] at h5 ⊢; exact ⟨r', mu', S', h1, h3, h5⟩
end
/-! ### targets -/
def rdG (K : PySem.W.Frag) (W : WX) (vs : List Nat) (g : Tg) : TG := fun v σ H Q => ∃ r mu S d, HRep K mu H S ∧ ERep K mu H σ r ∧ Rep K mu H v d ∧ Post K W σ mu H (fun r' _ mu' H' => ∀ σ', ERep K mu' H' σ' r' → wipe σ' vs = wipe σ vs → Q σ' H') (g d r S)
def rdGs (K : PySem.W.Frag) (W : WX) (vs : List Nat) (g : List D → Env → M Env) : TGs := fun v σ H Q => ∃ r mu S d, HRep K mu H S ∧ ERep K mu H σ r ∧ Reps K mu H v d ∧ Post K W σ mu H (fun r' _ mu' H' => ∀ σ', ERep K mu' H' σ' r' → wipe σ' vs = wipe σ vs → Q σ' H') (g d r S)
abbrev SG (X : Cx) (W : WX) (tg : Expr) (vs : List Nat) (g : Tg) : Prop := PG X tg (rdG X.K W vs g)
abbrev SGs (X : Cx) (W : WX) (tg : List Expr) (vs : List Nat) (g : List D → Env → M Env) : Prop := PGs X tg (rdGs X.K W vs g)
theorem wipe_set0 (σ : L2.St) (i : Nat) (v : Option V) : ∀ vs : List Nat, (wipe (σ.set i v) vs).set i none = (wipe σ vs).set i none := by
  intro vs
  induction vs with
  | nil => exact List.set_set ..
  | cons j vs ih =>
    show ((wipe (σ.set i v) vs).set j none).set i none = ((wipe σ vs).set j none).set i none
    by_cases hj : i = j
    · subst hj
      rw [ih]
    · rw [List.set_comm _ _ (Ne.symm hj), ih, List.set_comm _ _ hj]
theorem wipe_set (σ : L2.St) (i : Nat) (v : Option V) : ∀ vs : List Nat, i ∈ vs → wipe (σ.set i v) vs = wipe σ vs := by
  intro vs
  induction vs with
  | nil => intro h; cases h
  | cons j vs ih =>
    intro h
    show (wipe (σ.set i v) vs).set j none = (wipe σ vs).set j none
    by_cases hj : i = j
    · subst hj
      exact wipe_set0 σ i v vs
    · rcases List.mem_cons.mp h with h | h
      · exact absurd h hj
      · rw [ih h]
theorem wipe_append (σ : L2.St) (vs ws : List Nat) : wipe σ (vs ++ ws) = wipe (wipe σ ws) vs := by
  induction vs with
  | nil => rfl
  | cons j vs ih =>
    show (wipe σ (vs ++ ws)).set j none = (wipe (wipe σ ws) vs).set j none
    rw [ih]
theorem wipe_swap (σ : L2.St) (j : Nat) : ∀ ws : List Nat, wipe (σ.set j none) ws = (wipe σ ws).set j none := by
  intro ws
  induction ws with
  | nil => rfl
  | cons i ws ih =>
    show (wipe (σ.set j none) ws).set i none = ((wipe σ ws).set i none).set j none
    rw [ih]
    by_cases h : j = i
    · rw [h]
    · rw [List.set_comm _ _ h]
theorem wipe_comm (σ : L2.St) (vs ws : List Nat) : wipe (wipe σ vs) ws = wipe (wipe σ ws) vs := by
  induction vs with
  | nil => rfl
  | cons j vs ih =>
    show wipe ((wipe σ vs).set j none) ws = (wipe (wipe σ ws) vs).set j none
    rw [wipe_swap, ih]
section
variable {X : Cx} {W : WX} {pos : Pos} {es : List Expr} {e : Expr}
theorem sg_name {i : Nat} {x : Str} (h : PG X (.Name x pos) (gName i)) : SG X W (.Name x pos) [i] (gN i) := ⟨fun p s σ H v u Q I rv q => h.run p s σ H v u Q I rv (by
  obtain ⟨r, mu, S, d, hS, he, hr, hp⟩ := q
  exact hp mu H Ext.refl hS _ (he.set hr i) (wipe_set _ _ _ _ (List.mem_singleton.mpr rfl)))⟩
theorem sgs_nil : SGs X W [] [] gT0 := ⟨fun p s σ H v u Q I rv q => pgs_nil.run p s σ H v u Q I rv (by
  obtain ⟨r, mu, S, d, hS, he, hr, hp⟩ := q
  cases hr with
  | nil => exact ⟨rfl, hp mu H Ext.refl hS _ he rfl⟩
  | cons _ _ => exact hp.elim)⟩
theorem sgs_cons {vs ws : List Nat} {g : Tg} {k : List D → Env → M Env} (h1 : SG X W e vs g) (h2 : SGs X W es ws k) (hk : ∀ d r S x S', k d r S ≠ .err x S')
    (hs : (assignEach (e :: es) X.env).map (·.2) = assign e X.env :: (assignEach es X.env).map (·.2) := by rfl) : SGs X W (e :: es) (vs ++ ws) (gTc g k) := ⟨fun p s σ H v u Q I rv q => (pgs_cons h1 h2 hs).run p s σ H v u Q I rv (by
  obtain ⟨r, mu, S, d, hS, he, hr, hp⟩ := q
  cases hr with
  | nil => exact hp.elim
  | cons h t =>
    rename_i v0 vr d0 dr
    refine ⟨v0, vr, rfl, r, mu, S, d0, hS, he, h, ?_⟩
    have hp1 : Post X.K W σ mu H _ (bnd (g d0 r) (fun r' => k dr r') S) := hp
    refine hp1.bnd.imp fun r' S1 mu1 H1 ex hS1 q1 σ' he' hw => ?_
    refine ⟨r', mu1, S1, dr, hS1, he', t.mono ex, ?_⟩
    cases e : k dr r' S1 with
    | ok r2 S2 =>
      rw [e] at q1
      exact fun m2 H2 e2 h2 σ2 he2 hw2 => q1 m2 H2 e2 h2 σ2 he2 (by rw [wipe_append, wipe_append, hw2, wipe_comm σ', hw, wipe_comm σ])
    | err x S2 => exact absurd e (hk _ _ _ _ _)
    | bad => rw [e] at q1; exact q1)⟩
theorem gN_noerr {i : Nat} : ∀ d r S x S', gN i d r S ≠ .err x S' := fun _ _ _ _ _ h => by cases h
theorem gT0_noerr : ∀ d r S x S', gT0 d r S ≠ .err x S' := fun d _ _ _ _ h => by cases d <;> cases h
theorem gTc_noerr {g : Tg} {k : List D → Env → M Env} (hg : ∀ d r S x S', g d r S ≠ .err x S') (hk : ∀ d r S x S', k d r S ≠ .err x S') : ∀ d r S x S', gTc g k d r S ≠ .err x S' := fun d r S x S' h => by
  cases d with
  | nil => cases h
  | cons d ds =>
    have h' : bnd (g d r) (fun r' => k ds r') S = .err x S' := h
    unfold bnd at h'
    cases e : g d r S with
    | ok a S1 => rw [e] at h'; exact hk _ _ _ _ _ h'
    | err y S1 => exact hg _ _ _ _ _ e
    | bad => rw [e] at h'; cases h'
theorem gT_noerr {k : List D → Env → M Env} (hk : ∀ d r S x S', k d r S ≠ .err x S') : ∀ d r S x S', gT k d r S ≠ .err x S' := fun d r S x S' h => by
  cases d <;> first | exact hk _ _ _ _ _ h | cases h
theorem sg_tup {vs : List Nat} {k : List D → Env → M Env} {n j : Nat} (hc : X.calm = true) (h : SGs X W es vs k) (hn : (assignEach es X.env).length = n) (hz : ∀ ds r S r' S', k ds r S = .ok r' S' → ds.length = n) (hk : ∀ d r S x S', k d r S ≠ .err x S')
    (hst : (assignEach es X.env).findIdx? (·.1) = none := by rfl) : SG X W (.Tuple es j pos) vs (gT k) := ⟨fun p s σ H v u Q I rv q => (pg_tup hc h hn hst).run p s σ H v u Q I rv (by
  obtain ⟨r, mu, S, d, hS, he, hr, hp⟩ := q
  cases hr with
  | tup hd hq hrs =>
    rename_i ad ws ds oo
    have hp' : Post X.K W σ mu H _ (k ds r S) := hp
    refine ⟨_, _, rfl, sqT_t hq, ?_, r, mu, S, _, hS, he, hrs, hp'⟩
    rw [hrs.length]
    cases e : k ds r S with
    | ok r' S' => exact hz _ _ _ _ _ e
    | err x S' => exact absurd e (hk _ _ _ _ _)
    | bad => rw [e] at hp'; exact hp'.elim
  | ttp hq hrs =>
    rename_i ad ws ds
    have hp' : Post X.K W σ mu H _ (k ds r S) := hp
    refine ⟨_, _, rfl, (.inl (.inl hq)), ?_, r, mu, S, _, hS, he, hrs, hp'⟩
    rw [hrs.length]
    cases e : k ds r S with
    | ok r' S' => exact hz _ _ _ _ _ e
    | err x S' => exact absurd e (hk _ _ _ _ _)
    | bad => rw [e] at hp'; exact hp'.elim
  | _ => exact hp.elim)⟩
theorem gT0_len : ∀ ds r S r' S', gT0 ds r S = .ok r' S' → ds.length = 0 := fun ds _ _ _ _ h => by cases ds with
  | nil => rfl
  | cons _ _ => cases h
theorem gTc_len {g : Tg} {k : List D → Env → M Env} {n : Nat} (hz : ∀ ds r S r' S', k ds r S = .ok r' S' → ds.length = n) : ∀ ds r S r' S', gTc g k ds r S = .ok r' S' → ds.length = n + 1 := fun ds r S r' S' h => by
  cases ds with
  | nil => cases h
  | cons d ds =>
    have h' : bnd (g d r) (fun r' => k ds r') S = .ok r' S' := h
    unfold bnd at h'
    cases e : g d r S with
    | ok a S1 => rw [e] at h'; rw [List.length_cons, hz _ _ _ _ _ h']
    | err y S1 => rw [e] at h'; cases h'
    | bad => rw [e] at h'; cases h'
variable {m : Env → M D}
theorem as_go {vs : List Nat} {g : Tg} {D : Ends} {σ : L2.St} {H : Hp} (q : rdS X.K W (sAs m g) D σ H) : rdE X.K W m σ H fun x H1 => rdG X.K W vs g x σ H1 D.nx := by
  obtain ⟨r, mu, S, hS, he, hp⟩ := bndO_E q
  refine ⟨r, mu, S, hS, he, hp.imp fun d S1 m2 H2 ex h2 q2 v rv => ?_⟩
  obtain ⟨r', mu', S', d', h1, h3, h4, h5⟩ := q2 v rv
  refine ⟨r', mu', S', d', h1, h3, h4, ?_⟩
  cases e : g d' r' S' with
  | ok r2 S2 => rw [e] at h5; exact fun m3 H3 e3 h3 σ3 he3 _ => h5 m3 H3 σ3 e3 h3 he3
  | err x S2 => rw [e] at h5; exact fun m3 H3 cl dd e3 hr3 rx => h5 m3 H3 σ cl dd e3 hr3 (h3.mono e3) rx
  | bad => rw [e] at h5; exact h5
theorem ss_set {i : Nat} {x : Str} {pos' : Pos} (hN : X.N.Nodup) (hi : X.N[i]? = some x) (hx : Loc X.env.scope x) (he : SE X W e m) (hs : swapsWith e (some (.Name x pos')) pos.line X.env = pure false := by rfl) (hf : X.fn x = true ∨ X.env.scope.names.lookup x = some .local := by first | exact .inl rfl | exact .inr rfl | assumption) :
    SS X W (.Assign [.Name x pos'] e pos) (sAs m (gN i)) := psI (ps_set hN hi hx he hs hf) fun D σ H q => by
  obtain ⟨r, mu, S, hS, he, hp⟩ := as_go (vs := [i]) q
  refine ⟨r, mu, S, hS, he, hp.imp fun d S1 m2 H2 ex h2 q2 v rv => ?_⟩
  obtain ⟨r', mu', S', d', h1, h3, h4, h5⟩ := q2 v rv
  exact h5 mu' H2 Ext.refl h1 _ (h3.set h4 i) (wipe_set _ _ _ _ (List.mem_singleton.mpr rfl))
theorem ss_as {tg : Expr} {vs : List Nat} {g : Tg} (he : SE X W e m) (hg : SG X W tg vs g) (hs : swapsWithSole [tg] e pos.line X.env = pure false := by rfl) (hw : swappedStores [tg] e X.env = pure none := by rfl)
    (h1 : (assignEach [tg] X.env).map (·.2) = [assign tg X.env] := by rfl) : SS X W (.Assign [tg] e pos) (sAs m g) := psI (ps_asg he hg hs hw h1) fun D σ H q => as_go q
end
/-! two names at once, from a written pair -/
def sPar (i j : Nat) (ms : Env → M (List D)) : Env → Sto → Out := bndO ms fun ds r S => match ds with
  | [x, y] => .nx ((r.set i (some x)).set j (some y)) S
  | _ => .bad
theorem ss_par {X : Cx} {W : WX} {i j : Nat} {x y : Str} {a b : Expr} {ms : Env → M (List D)} {px py pt pos : Pos} {kt k2 pt2} (hc : X.calm = true) (hN : X.N.Nodup) (hi : X.N[i]? = some x) (hj : X.N[j]? = some y) (hij : i ≠ j)
    (hx : X.env.scope.names.lookup x = some .local) (hy : X.env.scope.names.lookup y = some .local) (ha : SA X W [a, b] ms)
    (hw : swappedStores [.Tuple [.Name x px, .Name y py] kt pt] (.Tuple [a, b] k2 pt2) X.env = pure (some [x, y]))
    (hs : swapsWithSole [.Tuple [.Name x px, .Name y py] kt pt] (.Tuple [a, b] k2 pt2) pos.line X.env = pure false := by rfl) :
    SS X W (.Assign [.Tuple [.Name x px, .Name y py] kt pt] (.Tuple [a, b] k2 pt2) pos) (sPar i j ms) := psI (ps_par hc hN hi hj hij hx hy ha hw hs) fun D σ H q => by
  obtain ⟨r, mu, S, hS, he, hp⟩ := q
  refine ⟨r, mu, S, hS, he, ?_⟩
  unfold sPar bndO at hp
  cases e : ms r S with
  | ok d S' =>
    rw [e] at hp
    intro m2 H2 e2 h2 vs rv
    cases rv with
    | nil => exact hp.elim
    | cons r1 t =>
      cases t with
      | nil => exact hp.elim
      | cons r2 t =>
        cases t with
        | nil => exact ⟨_, _, rfl, hp m2 H2 _ e2 h2 (((he.mono e2).set r1 i).set r2 j)⟩
        | cons _ _ => exact hp.elim
  | err z S' => rw [e] at hp; exact fun m2 H2 cl dd e2 h2 rx => hp m2 H2 σ cl dd e2 h2 (he.mono e2) rx
  | bad => rw [e] at hp; exact hp
end Fa
/-! enumerate(tuple), after HandS.Iter's enumerate(list) -/
namespace PySem
open Sem (wp)
open AutoSeq1 (wpAny_loadPart')
theorem fa_enumerate_newT (l : Addr) (items : Array Value) (n : Nat) (dct : Option Addr) (sl : Array (Option Value)) :
    Meets (Builtin.«enumerate.__new__» ⟨[.type "enumerate", .ref l], []⟩) (fun _ R s => s.heap.get? l = some { cls := .type "tuple", dict := dct, data := .seq items n, slots := sl } ∧
      R (.ok (.ret (.ref (s.heap.push { cls := .type "tuple_iterator", data := .fields #[.ref l, .int 0 0] }).objs.size)))
        { s with heap := (s.heap.push { cls := .type "tuple_iterator", data := .fields #[.ref l, .int 0 0] }).push { cls := .type "enumerate", data := .fields #[.none, .bool false, .ref s.heap.objs.size, rawInt 0, .none, .none] } }) :=
  .of_wp fun prog w A R s h => by
    obtain ⟨hp, g, d, tk, os⟩ := s; obtain ⟨hl, h⟩ := h
    have hsub := sub_enumerate
    have hL : Heap.IsTuple (Shared.heap ⟨hp, g, d, tk, os⟩) l items := ⟨_, hl, rfl, n, rfl⟩
    wp_walk using wpAny_loadPart' hl
    refine wpAny_stack_any fun st => wpAny_pure ?_
    split
    · rename_i c _ _ _ _ _
      cases (c == Value.type "enumerate")
      · wp_walk using wpAny_loadPart' hl, wpAny_pyIter_tuple hL
        exact ⟨_, rfl, h⟩
      · wp_walk using wpAny_loadPart' hl, wpAny_pyIter_tuple hL
        exact ⟨_, rfl, h⟩
    · wp_walk using wpAny_loadPart' hl, wpAny_pyIter_tuple hL
      exact ⟨_, rfl, h⟩
section
variable {prog : Program} {w : World} {A : Around} {E : Value → Shared → Prop} {s : Shared}
theorem fa_call_enumerate {l : Addr} {items : Array Value} {Q : Value → Shared → Prop} (hL : s.heap.IsTuple l items)
    (h : ∀ h', IsEnum h' (s.heap.objs.size + 1) s.heap.objs.size 0 .none → h'.IsTupleIter s.heap.objs.size l 0 → h'.objs.size = s.heap.objs.size + 2 →
      (∀ b o, s.heap.get? b = some o → h'.get? b = some o) → Q (.ref (s.heap.objs.size + 1)) { s with heap := h' }) :
    wpAny (model prog w) A (call (.type "enumerate") [.ref l]) Q E s := by
  obtain ⟨⟨c, dct, dt, sl⟩, hl, hc, n, hd⟩ := hL
  replace hc : c = .type "tuple" := hc
  replace hd : dt = .seq items n := hd
  subst hc hd
  refine callType_new F.called_enumerate (by decide) (F.typeCall_enumerate_1 _) (F.newCall_enumerate_1 _) (fun obj => F.args_object_init_2 obj _) F.entry_enumerate_new
    (fa_enumerate_newT l items n dct sl) ⟨hl, ?_⟩
  have hz : (s.heap.push { cls := .type "tuple_iterator", data := .fields #[.ref l, .int 0 0] }).objs.size = s.heap.objs.size + 1 := Heap.size_push ..
  show _ ∧ _
  rw [hz]
  have he : IsEnum ((s.heap.push { cls := .type "tuple_iterator", data := .fields #[.ref l, .int 0 0] }).push
      { cls := .type "enumerate", data := .fields #[.none, .bool false, .ref s.heap.objs.size, rawInt 0, .none, .none] }) (s.heap.objs.size + 1) s.heap.objs.size 0 .none := by
    have := Heap.get?_push_size (s.heap.push { cls := .type "tuple_iterator", data := .fields #[.ref l, .int 0 0] })
      (o := { cls := .type "enumerate", data := .fields #[.none, .bool false, .ref s.heap.objs.size, rawInt 0, .none, .none] }) rfl
    rw [hz] at this; exact this
  refine ⟨⟨_, he, rfl⟩, h _ he ⟨_, Heap.get?_push_of_some _ (Heap.get?_push_size _ rfl), rfl, rfl⟩ (by rw [Heap.size_push, hz]) fun b o x => Heap.get?_push_of_some _ (Heap.get?_push_of_some _ x)⟩
theorem fa_next_enum_end {e it l : Addr} {i : Nat} {items : Array Value} {old : Value} {Q : Option Value → Shared → Prop} (hh : A.handled = none)
    (he : IsEnum s.heap e it i old) (hit : s.heap.IsTupleIter it l i) (hl : s.heap.IsTuple l items) (hx : items[i]? = none)
    (hQ : ∀ h', Heap.ExtBut it s.heap h' → Q none { s with heap := h' }) : wpAny (model prog w) A (pyNext (.ref e)) Q E s := by
  have hT : s.TypeIs (.ref e) "enumerate" := ⟨_, he, rfl⟩
  unfold pyNext
  refine wpAny_bind (wpAny_attempt (wpAny_callSpecial?_slot (name := Str.ofString "__next__") hT F.slot_enumerate_next
    (wpAny_call_entry F.slot_enumerate_next hT F.entry_enumerate_next ?_ (F.args_enumerate_next_1 _))))
  show wpAny _ _ (field (.ref e) 2 >>= _) _ _ _
  refine wpAny_bind (wpAny_field he rfl (x := .ref it) rfl ?_)
  refine wpAny_bind (wpAny_nextOf_tuple_end hh hit hl hx fun h' x he' hx' => ?_)
  obtain ⟨o, ho, hc⟩ := hx'
  refine wpAny_bind (wpAny_isInstance (T := "StopIteration") (b := true) ⟨o, ho, hc⟩ isSubtype_stop ?_)
  exact wpAny_pure (hQ _ he')
end
end PySem
namespace Fa
open PySem PySem.Spec PyProof.Rows L2
def IteT (K : PySem.W.Frag) (a : Addr) : It :=
  ⟨fun i H => ∃ (xs : List V) (x : V), SqT K H a xs ∧ xs[i]? = some x, fun i H v H' => ∃ T x, v = .ref T ∧ H T = none ∧ H' = upd H T (.tup [.int (i : Nat), x]) ∧ ∀ xs, SqT K H a xs → xs[i]? = some x, fun i H => ∃ xs : List V, SqT K H a xs ∧ xs.length ≤ i⟩
theorem turn_enumT {P : Program} {w : World} {K : PySem.W.Frag} {elts : List Expr} {kk : Nat} {tpos : Pos} (a e it : Addr) :
    Turn P w K (.Tuple elts kk tpos) (IteT K a) [e, it] e (fun i h => (∃ old, IsEnum h e it ((i : Nat) : Int) old) ∧ h.IsTupleIter it a i ∧ e ≠ it ∧ a ≠ it ∧ a ≠ e) where
  mem := by simp
  obj := fun i h st b hb => by
    obtain ⟨⟨old, he⟩, ⟨o, ho, hc, hd⟩, _⟩ := st
    have e' : b = e ∨ b = it := by simpa using hb
    rcases e' with z | z
    · rw [z]; exact ⟨_, he, fun v q => nomatch q⟩
    · rw [z]; exact ⟨o, ho, fun v q => by rw [hd] at q; cases q⟩
  keep := fun i h h' st k => let ⟨⟨old, he⟩, hi, hne⟩ := st; ⟨⟨old, k e (by simp) _ he⟩, hi.at fun o q => k it (by simp) o q, hne⟩
  item := by
    intro X hP hw hK hc i pins s σ H E I hf st hg
    subst hP hw hK
    obtain ⟨⟨old, he⟩, hit, hne, hae, hae2⟩ := st
    obtain ⟨xs, x, hq, hx⟩ := hg
    obtain ⟨its, rv, p, hz⟩ := I.tuple hq
    obtain ⟨u, hu, ru⟩ := rv.get hx
    have hel : e < s.heap.objs.size := Heap.lt_size he
    have hil : it < s.heap.objs.size := by obtain ⟨_, q, _⟩ := hit; exact Heap.lt_size q
    have hil2 : i < its.toArray.size := by
      have := (List.getElem?_eq_some_iff.mp hu).1
      simpa using this
    refine wpAny_pyNext_enum_itemD (Draws.tuple (A := X.A.in1) (show X.A.in1.handled = none from I.ok.hd hc) it a hae its.toArray) he ⟨hit, p⟩ hil2 hne (by simp; exact ⟨hne, Ne.symm hae2⟩) fun x' h' tk hx' ho hit' hT hsz hk => ?_
    have hxu : x' = u := by
      have h1 : its[i]? = some x' := by simpa using hx'
      rw [hu] at h1
      exact (Option.some.inj h1).symm
    subst hxu
    refine ⟨_, rfl, wpAny_letOwnedTupleGo_enum (s := { s with heap := h', toks := tk + 1 }) ho fun h'' he' sb => ?_⟩
    have hT2 : h''.get? s.heap.objs.size = some { cls := .type "tuple", data := .seq #[.int i tk, x'] } := (sb.2 _ (Nat.ne_of_gt hel)).trans hT
    have new : ObjOk X.prog X.w (upd H s.heap.objs.size (.tup [.int (i : Nat), x])) h'' s.heap.objs.size (.tup [.int (i : Nat), x]) :=
      ⟨by show 2 ≤ sizeLine; decide, [.int i tk, x'], .cons ⟨_, rfl⟩ (.cons ru .nil), ⟨_, hT2, rfl, _, rfl⟩⟩
    have I1 : Inv X pins σ (upd H s.heap.objs.size (.tup [.int (i : Nat), x])) { s with heap := h'', toks := tk + 1 } :=
      I.turnedNew (ch := [e, it]) (fun b ob hb q => (sb.2 b (fun z => hb (by simp [z]))).trans (hk b ob (fun z => hb (by simp [z])) (fun z => hb (by simp [z])) q)) hf (Nat.le_refl _) new
    refine ⟨.ref s.heap.objs.size, _, I1, rfl, ⟨_, x, rfl, I.hok.fresh (Nat.le_refl _), rfl, fun ys hy => by rw [I.tuple_inj hy hq]; exact hx⟩, ⟨⟨x', ?_⟩, hit'.1.at fun o q => (sb.2 it (Ne.symm hne)).trans q, hne, hae, hae2⟩, fun b hb => ?_⟩
    · have e1 : ((i + 1 : Nat) : Int) = (i : Int) + 1 := by omega
      rw [e1]; exact he'
    · have hb' : b < s.heap.objs.size := by
        have e' : b = e ∨ b = it := by simpa using hb
        rcases e' with z | z
        · rw [z]; exact hel
        · rw [z]; exact hil
      rw [upd_ne (Nat.ne_of_lt hb')]
      exact (hf b hb).1
  done := by
    intro X hP hw hK hc i pins s σ H E I hf st hg
    subst hP hw hK
    obtain ⟨⟨old, he⟩, hit, hne, hae, hae2⟩ := st
    obtain ⟨xs, hq, hx⟩ := hg
    obtain ⟨its, rv, p, hz⟩ := I.tuple hq
    obtain ⟨f0, f1, f2, f3, f4, f5⟩ := hf it (by simp)
    have hl := rv.length
    exact fa_next_enum_end (I.ok.hd hc) he hit p (by simp; omega) fun h' eb => ⟨rfl, I.turned (t' := s.toks) (fun b o hb q => eb b o hb q) f0 f1 f3 f4 f5⟩
  self := fun A i s Q E st h => let ⟨⟨_, he⟩, _⟩ := st; wpAny_pyIter_enum he h
theorem pi_enumT {X : Cx} {e : Expr} {ta : TA} {p pos tpos : Pos} {elts : List Expr} {kk : Nat} (hg : Gl X "enumerate") (hm : X.mg "enumerate" = none) (ha : PA X [e] ta) (hs : starEach [e] X.env = [(false, eval e X.env)] := by rfl) :
    PI X (.Tuple elts kk tpos) (.Call (.Name "enumerate" p) [e] [] pos) (fun σ H R => ta σ H fun vs H1 => ∃ a xs, vs = [.ref a] ∧ ((SqL X.K H1 a xs ∧ R (Ite X.K a) H1) ∨ (SqT X.K H1 a xs ∧ R (IteT X.K a) H1))) := by
  refine ⟨fun pins s σ H R I h => ?_⟩
  refine Call_ (ld_blt I hg hm boot_enumerate (PyProof.Rows.callWith_type1 (thn (ha.run pos pins s σ H _ I h) fun us s1 ⟨vs, H1, I1, r1, q1⟩ => ?_) hs rfl))
  obtain ⟨a, xs, ex, hq⟩ := q1
  subst ex
  cases r1 with
  | cons r rr =>
    cases rr
    cases r
    have fp : ∀ b ∈ [s1.heap.objs.size + 1, s1.heap.objs.size], s1.heap.objs.size ≤ b := fun b hb => by
      have e' : b = s1.heap.objs.size + 1 ∨ b = s1.heap.objs.size := by simpa using hb
      rcases e' with z | z
      · rw [z]; exact Nat.le_add_right _ _
      · rw [z]; exact Nat.le_refl _
    rcases hq with ⟨hq, q⟩ | ⟨hq, q⟩
    · obtain ⟨its, rv, p', hz⟩ := I1.list hq
      refine call_enumerate_list p'.isList fun h' he hit hsz hk => wpAny_pyIter_enum he ?_
      have I2 : Inv X pins σ H1 { s1 with heap := h' } := I1.kept (t' := s1.toks) hk
      exact ⟨s1.heap.objs.size + 1, [s1.heap.objs.size + 1, s1.heap.objs.size], _, _, H1, rfl, I2, turn_enum a (s1.heap.objs.size + 1) s1.heap.objs.size, ⟨⟨.none, he⟩, hit, Nat.succ_ne_self _⟩, fun b hb => I1.fpOk (fp b hb) (I1.hok.fresh (fp b hb)), q⟩
    · obtain ⟨its, rv, p', hz⟩ := I1.tuple hq
      have hal : a < s1.heap.objs.size := by
        obtain ⟨o, ho, _⟩ := id p'
        exact Heap.lt_size ho
      refine fa_call_enumerate p' fun h' he hit hsz hk => wpAny_pyIter_enum he ?_
      have I2 : Inv X pins σ H1 { s1 with heap := h' } := I1.kept (t' := s1.toks) hk
      exact ⟨s1.heap.objs.size + 1, [s1.heap.objs.size + 1, s1.heap.objs.size], _, _, H1, rfl, I2, turn_enumT a (s1.heap.objs.size + 1) s1.heap.objs.size, ⟨⟨.none, he⟩, hit, Nat.succ_ne_self _, Nat.ne_of_lt hal, Nat.ne_of_lt (Nat.lt_succ_of_lt hal)⟩, fun b hb => I1.fpOk (fp b hb) (I1.hok.fresh (fp b hb)), q⟩
end Fa
namespace Fa
open PySem PySem.Spec PyProof.Rows L2
/-! ### what is walked -/
inductive Src where
  | items (ds : List D) | lst (n : Nat) | rng (lo : Int) (k : Nat) | txt (x : Str) | zip (xs ys : List D) | enm (ds : List D) | enl (n : Nat)
def srcOf : D → M Src
  | .tup ds => ret (.items ds)
  | .ktp ds => ret (.items ds)
  | .rls ds => ret (.items ds)
  | .str x => ret (.txt x)
  | .loc n => fun S => match S[n]? with
    | some (.lst _) => .ok (.lst n) S
    | _ => .bad
  | _ => fail
def rngOk (j : Int) : Bool := decide (-(2 ^ 62) ≤ j) && decide (j < 2 ^ 62)
def rngOf1 : List D → M Src
  | [.int j] => if rngOk j = true then ret (.rng 0 j.toNat) else fail
  | _ => fail
def rngOf2 : List D → M Src
  | [.int i, .int j] => if (rngOk i && rngOk j) = true then ret (.rng i (j - i).toNat) else fail
  | _ => fail
def nextD (src : Src) (i : Nat) (S : Sto) : Option (Option D) := match src with
  | .items ds => some ds[i]?
  | .lst n => match S[n]? with
    | some (.lst ds) => some ds[i]?
    | _ => none
  | .rng lo k => some (if i < k then some (.int (lo + i)) else none)
  | .txt x => some (x.cps[i]?.map fun c => .str ⟨#[c]⟩)
  | .zip xs ys => some (match xs[i]?, ys[i]? with
    | some a, some b => some (.ttp [a, b])
    | _, _ => none)
  | .enm ds => some (ds[i]?.map fun d => .ttp [.int (i : Nat), d])
  | .enl n => match S[n]? with
    | some (.lst ds) => some (ds[i]?.map fun d => .ttp [.int (i : Nat), d])
    | _ => none
def turns (src : Src) (S : Sto) : Nat := match src with
  | .items ds => ds.length
  | .lst n => match S[n]? with
    | some (.lst ds) => ds.length
    | _ => 0
  | .rng _ k => k
  | .txt x => x.cps.size
  | .zip xs ys => min xs.length ys.length
  | .enm ds => ds.length
  | .enl n => match S[n]? with
    | some (.lst ds) => ds.length
    | _ => 0
def ItOk (K : PySem.W.Frag) (mu : List Addr) (H : Hp) (src : Src) (J : It) : Prop := match src with
  | .items ds => ∃ a vs, Reps K mu H vs ds ∧ ((SqT K H a vs ∧ J = Itt K a) ∨ (SqR K H a vs ∧ J = Itl K a))
  | .lst n => ∃ a, mu[n]? = some a ∧ J = Itl K a
  | .rng lo k => J = Itr lo k
  | .txt x => J = Its x
  | .zip xs ys => ∃ a b vs ws, Reps K mu H vs xs ∧ Reps K mu H ws ys ∧ SqT K H a vs ∧ SqT K H b ws ∧ J = RZ.ItzT K a b
  | .enm ds => ∃ a vs, Reps K mu H vs ds ∧ SqT K H a vs ∧ J = IteT K a
  | .enl n => ∃ a, mu[n]? = some a ∧ J = Ite K a
def rdI (K : PySem.W.Frag) (W : WX) (m : Env → M Src) : TI := fun σ H R => ∃ r mu S, HRep K mu H S ∧ ERep K mu H σ r ∧ Post K W σ mu H (fun src _ mu' H' => ∀ J, ItOk K mu' H' src J → R J H') (m r S)
abbrev SI (X : Cx) (W : WX) (tg it : Expr) (m : Env → M Src) : Prop := PI X tg it (rdI X.K W m)
theorem SqR.sqL {K : PySem.W.Frag} {H : Hp} {a : Addr} {vs : List V} (h : SqR K H a vs) : SqL K H a vs := by
  rcases h with ⟨o, h⟩ | h
  · exact .inl (.inr ⟨o, h⟩)
  · exact .inr h
theorem ItOk.mono {K : PySem.W.Frag} {mu mu' : List Addr} {H H' : Hp} {src : Src} {J : It} (e : Ext mu H mu' H') (h : ItOk K mu H src J) : ItOk K mu' H' src J := by
  cases src with
  | items ds =>
    obtain ⟨a, vs, r, q⟩ := h
    refine ⟨a, vs, r.mono e, ?_⟩
    rcases q with ⟨q, z⟩ | ⟨q, z⟩
    · exact .inl ⟨e.sqT q, z⟩
    · exact .inr ⟨e.sqR q, z⟩
  | lst n =>
    obtain ⟨a, q, z⟩ := h
    exact ⟨a, e.get q, z⟩
  | rng lo k => exact h
  | txt x => exact h
  | zip xs ys =>
    obtain ⟨a, b, vs, ws, r1, r2, q1, q2, z⟩ := h
    exact ⟨a, b, vs, ws, r1.mono e, r2.mono e, e.sqT q1, e.sqT q2, z⟩
  | enm ds =>
    obtain ⟨a, vs, r, q, z⟩ := h
    exact ⟨a, vs, r.mono e, e.sqT q, z⟩
  | enl n =>
    obtain ⟨a, q, z⟩ := h
    exact ⟨a, e.get q, z⟩
theorem int_of {v : V} {K : PySem.W.Frag} {mu : List Addr} {H : Hp} {i : Int} (h : Rep K mu H v (.int i)) : v = .int i := by cases h; rfl
theorem str_of {v : V} {K : PySem.W.Frag} {mu : List Addr} {H : Hp} {i : Str} (h : Rep K mu H v (.str i)) : v = .str i := by cases h; rfl
/-- a turn: what is next, or the end -/
theorem ItOk.stop {K : PySem.W.Frag} {mu : List Addr} {H : Hp} {S : Sto} {src : Src} {J : It} {i : Nat} (h : ItOk K mu H src J) (hS : HRep K mu H S) (e : nextD src i S = some none) : J.stop i H := by
  cases src with
  | items ds =>
    obtain ⟨a, vs, r, q⟩ := h
    have hl : vs.length ≤ i := by
      rw [r.length]
      exact List.getElem?_eq_none_iff.mp (Option.some.inj e)
    rcases q with ⟨q, rfl⟩ | ⟨q, rfl⟩
    · exact ⟨vs, q, hl⟩
    · exact ⟨vs, q.sqL, hl⟩
  | lst n =>
    obtain ⟨a, q, rfl⟩ := h
    obtain ⟨o, ho, hm⟩ := hS.obj q
    simp only [nextD, ho] at e
    cases o with
    | lst ds =>
      obtain ⟨vs, h1, h2⟩ := hm
      refine ⟨vs, .inl (.inl h1), ?_⟩
      rw [h2.length]
      exact List.getElem?_eq_none_iff.mp (Option.some.inj e)
    | dct _ => cases e
    | dcT _ => cases e
    | tab _ _ => cases e
    | ins _ _ => cases e
  | rng lo k =>
    cases h
    simp only [nextD] at e
    by_cases hk : i < k
    · rw [if_pos hk] at e; cases e
    · exact Nat.le_of_not_lt hk
  | txt x =>
    cases h
    have e' : x.cps[i]?.map (fun c => D.str ⟨#[c]⟩) = none := Option.some.inj e
    exact Array.getElem?_eq_none_iff.mp (Option.map_eq_none_iff.mp e')
  | zip xs ys =>
    obtain ⟨a, b, vs, ws, r1, r2, q1, q2, rfl⟩ := h
    refine ⟨vs, ws, q1, q2, ?_⟩
    have e' := Option.some.inj e
    rw [r1.length, r2.length]
    by_cases h1 : i < xs.length
    · by_cases h2 : i < ys.length
      · rw [List.getElem?_eq_getElem h1, List.getElem?_eq_getElem h2] at e'
        cases e'
      · exact .inr (Nat.le_of_not_lt h2)
    · exact .inl (Nat.le_of_not_lt h1)
  | enm ds =>
    obtain ⟨a, vs, r, q, rfl⟩ := h
    refine ⟨vs, q, ?_⟩
    rw [r.length]
    exact List.getElem?_eq_none_iff.mp (Option.map_eq_none_iff.mp (Option.some.inj e))
  | enl n =>
    obtain ⟨a, q, rfl⟩ := h
    obtain ⟨o, ho, hm⟩ := hS.obj q
    simp only [nextD, ho] at e
    cases o with
    | lst ds =>
      obtain ⟨vs, h1, h2⟩ := hm
      refine ⟨vs, .inl (.inl h1), ?_⟩
      rw [h2.length]
      exact List.getElem?_eq_none_iff.mp (Option.map_eq_none_iff.mp (Option.some.inj e))
    | dct _ => cases e
    | dcT _ => cases e
    | tab _ _ => cases e
    | ins _ _ => cases e
def Src.fresh : Src → Bool
  | .zip _ _ => true
  | .enm _ => true
  | .enl _ => true
  | _ => false
theorem ItOk.go0 {K : PySem.W.Frag} {mu : List Addr} {H : Hp} {S : Sto} {src : Src} {J : It} {i : Nat} {d : D} (hz : src.fresh = false) (h : ItOk K mu H src J) (hS : HRep K mu H S) (e : nextD src i S = some (some d)) : J.go i H ∧ ∀ x H', J.yld i H x H' → H' = H ∧ Rep K mu H x d := by
  cases src with
  | items ds =>
    obtain ⟨a, vs, r, q⟩ := h
    obtain ⟨v, hv, rv⟩ := r.get (Option.some.inj e)
    rcases q with ⟨q, rfl⟩ | ⟨q, rfl⟩
    · refine ⟨⟨vs, v, q, hv⟩, fun x H' y => ⟨y.1, ?_⟩⟩
      have := y.2 vs q
      rw [hv] at this
      cases this
      exact rv
    · refine ⟨⟨vs, v, q.sqL, hv⟩, fun x H' y => ⟨y.1, ?_⟩⟩
      have := y.2 vs q.sqL
      rw [hv] at this
      cases this
      exact rv
  | lst n =>
    obtain ⟨a, q, rfl⟩ := h
    obtain ⟨o, ho, hm⟩ := hS.obj q
    simp only [nextD, ho] at e
    cases o with
    | lst ds =>
      obtain ⟨vs, h1, h2⟩ := hm
      obtain ⟨v, hv, rv⟩ := h2.get (Option.some.inj e)
      refine ⟨⟨vs, v, .inl (.inl h1), hv⟩, fun x H' y => ⟨y.1, ?_⟩⟩
      have := y.2 vs (.inl (.inl h1))
      rw [hv] at this
      cases this
      exact rv
    | dct _ => cases e
    | dcT _ => cases e
    | tab _ _ => cases e
    | ins _ _ => cases e
  | rng lo k =>
    cases h
    simp only [nextD] at e
    by_cases hk : i < k
    · rw [if_pos hk] at e
      cases e
      refine ⟨hk, fun x H' y => ⟨y.1, ?_⟩⟩
      rw [y.2]
      exact .int _
    · rw [if_neg hk] at e; cases e
  | txt x =>
    cases h
    have e' : x.cps[i]?.map (fun c => D.str ⟨#[c]⟩) = some d := Option.some.inj e
    obtain ⟨c, e1, e2⟩ := Option.map_eq_some_iff.mp e'
    subst e2
    refine ⟨(Array.getElem?_eq_some_iff.mp e1).1, fun v H' y => ⟨y.1, ?_⟩⟩
    obtain ⟨c', e3, e4⟩ := y.2
    rw [e1] at e3
    cases e3
    rw [e4]
    exact .str _
  | zip xs ys => cases hz
  | enm _ => cases hz
  | enl _ => cases hz
theorem ItOk.go {K : PySem.W.Frag} {mu : List Addr} {H : Hp} {S : Sto} {src : Src} {J : It} {i : Nat} {d : D} (h : ItOk K mu H src J) (hS : HRep K mu H S) (e : nextD src i S = some (some d)) : J.go i H ∧ ∀ x H', J.yld i H x H' → Ext mu H mu H' ∧ HRep K mu H' S ∧ Rep K mu H' x d := by
  by_cases hz : src.fresh = false
  · obtain ⟨h1, h2⟩ := ItOk.go0 hz h hS e
    refine ⟨h1, fun x H' y => ?_⟩
    obtain ⟨e1, r⟩ := h2 x H' y
    subst e1
    exact ⟨Ext.refl, hS, r⟩
  · cases src with
    | zip xs ys =>
      obtain ⟨a, b, vs, ws, r1, r2, q1, q2, rfl⟩ := h
      have e' := Option.some.inj e
      cases ea : xs[i]? with
      | none => rw [ea] at e'; cases e'
      | some da =>
        cases eb : ys[i]? with
        | none => rw [ea, eb] at e'; cases e'
        | some db =>
          rw [ea, eb] at e'
          cases e'
          obtain ⟨v, hv, rv⟩ := r1.get ea
          obtain ⟨w, hw, rw⟩ := r2.get eb
          refine ⟨⟨vs, ws, v, w, q1, q2, hv, hw⟩, fun x H' y => ?_⟩
          obtain ⟨T, x1, y1, rfl, hT, rfl, h1, h2⟩ := y
          have e1 := h1 vs q1
          have e2 := h2 ws q2
          rw [hv] at e1
          rw [hw] at e2
          cases e1
          cases e2
          exact ⟨ext_tup hT, hS.tup hT, .ttp upd_same (.cons (rv.mono (ext_tup hT)) (.cons (rw.mono (ext_tup hT)) .nil))⟩
    | enm ds =>
      obtain ⟨a, vs, r, q, rfl⟩ := h
      obtain ⟨d0, ed, e2⟩ := Option.map_eq_some_iff.mp (Option.some.inj e)
      subst e2
      obtain ⟨v, hv, rv⟩ := r.get ed
      refine ⟨⟨vs, v, q, hv⟩, fun x H' y => ?_⟩
      obtain ⟨T, x1, rfl, hT, rfl, h1⟩ := y
      have e1 := h1 vs q
      rw [hv] at e1
      cases e1
      exact ⟨ext_tup hT, hS.tup hT, .ttp upd_same (.cons (.int _) (.cons (rv.mono (ext_tup hT)) .nil))⟩
    | enl n =>
      obtain ⟨a, q, rfl⟩ := h
      obtain ⟨o, ho, hm⟩ := hS.obj q
      simp only [nextD, ho] at e
      cases o with
      | lst ds =>
        obtain ⟨vs, k1, k2⟩ := hm
        obtain ⟨d0, ed, e2⟩ := Option.map_eq_some_iff.mp (Option.some.inj e)
        subst e2
        obtain ⟨v, hv, rv⟩ := k2.get ed
        have sq : SqL K H a vs := .inl (.inl k1)
        refine ⟨⟨vs, v, sq, hv⟩, fun x H' y => ?_⟩
        obtain ⟨T, x1, rfl, hT, rfl, h1⟩ := y
        have e1 := h1 vs sq
        rw [hv] at e1
        cases e1
        exact ⟨ext_tup hT, hS.tup hT, .ttp upd_same (.cons (.int _) (.cons (rv.mono (ext_tup hT)) .nil))⟩
      | dct _ => cases e
      | dcT _ => cases e
      | tab _ _ => cases e
      | ins _ _ => cases e
    | _ => exact absurd rfl hz
section
variable {X : Cx} {W : WX} {tg l : Expr} {m : Env → M D}
theorem pi_any {tl : TE} (hl : PE X l tl) : PI X tg l (fun σ H R => tl σ H fun x H1 => (∃ a, x = .ref a ∧ ((∃ xs, SqL X.K H1 a xs ∧ R (Itl X.K a) H1) ∨ ∃ xs, SqT X.K H1 a xs ∧ R (Itt X.K a) H1)) ∨ ∃ z, x = .str z ∧ R (Its z) H1) := by
  constructor
  intro pins s σ H R I h
  refine thn (hl.run pins s σ H _ I h) fun v s1 q => ?_
  obtain ⟨x, H1, I1, r1, q⟩ := q
  rcases q with ⟨a, rfl, q⟩ | ⟨z, rfl, q⟩
  rotate_left
  · obtain ⟨t, rfl⟩ := r1
    cases ha : z.cps.all (· < 128)
    · exact wpAny_pyIter_wide ha (pi_one (tk := s1.toks) I1 _ (turn_str _ z t "str_iterator" (.inr rfl)) ⟨_, Heap.get?_push_size _ rfl, rfl, rfl⟩ q)
    · exact wpAny_pyIter_ascii ha (pi_one (tk := s1.toks) I1 _ (turn_str _ z t "str_ascii_iterator" (.inl rfl)) ⟨_, Heap.get?_push_size _ rfl, rfl, rfl⟩ q)
  cases r1
  have fresh : ∀ b ∈ [s1.heap.objs.size], FpOk X pins H1 b := fun b hb => by
    rw [List.mem_singleton] at hb
    rw [hb]
    exact I1.fpOk (Nat.le_refl _) (I1.hok.fresh (Nat.le_refl _))
  rcases q with ⟨xs, hq, q⟩ | ⟨xs, hq, q⟩
  · obtain ⟨its, _, p, _⟩ := I1.list hq
    exact wpAny_pyIter_list p.isList ⟨_, [s1.heap.objs.size], _, _, H1, rfl, I1.kept (t' := s1.toks) fun b o e => Heap.get?_push_of_some _ e, turn_list a _, ⟨_, Heap.get?_push_size _ rfl, rfl, rfl⟩, fresh, q⟩
  · obtain ⟨its, _, p, _⟩ := I1.tuple hq
    have p' : s1.heap.IsTuple a its.toArray := p
    exact wpAny_pyIter_tuple p' ⟨_, [s1.heap.objs.size], _, _, H1, rfl, I1.kept (t' := s1.toks) fun b o e => Heap.get?_push_of_some _ e, turn_tuple a _, ⟨_, Heap.get?_push_size _ rfl, rfl, rfl⟩, fresh, q⟩
def mSrc (m : Env → M D) : Env → M Src := fun r => bnd (m r) srcOf
def mRng1 (m : Env → M (List D)) : Env → M Src := fun r => bnd (m r) rngOf1
def mRng2 (m : Env → M (List D)) : Env → M Src := fun r => bnd (m r) rngOf2
theorem si_any (hl : SE X W l m) : SI X W tg l (mSrc m) := ⟨fun pins s σ H R I q => (pi_any hl).run pins s σ H R I (by
  obtain ⟨r, mu, S, hS, he, hp⟩ := q
  refine ⟨r, mu, S, hS, he, hp.bnd.imp fun d S1 m2 H2 ex h2 q2 v rv => ?_⟩
  cases rv with
  | str x => exact .inr ⟨_, rfl, q2 m2 H2 Ext.refl h2 _ rfl⟩
  | tup hd hq hr => exact .inl ⟨_, rfl, .inr ⟨_, sqT_t hq, q2 m2 H2 Ext.refl h2 _ ⟨_, _, hr, .inl ⟨sqT_t hq, rfl⟩⟩⟩⟩
  | ktp hq hr => exact .inl ⟨_, rfl, .inr ⟨_, sqT_k hq, q2 m2 H2 Ext.refl h2 _ ⟨_, _, hr, .inl ⟨sqT_k hq, rfl⟩⟩⟩⟩
  | rls hq hr => exact .inl ⟨_, rfl, .inl ⟨_, hq.sqL, q2 m2 H2 Ext.refl h2 _ ⟨_, _, hr, .inr ⟨hq, rfl⟩⟩⟩⟩
  | loc hn =>
    rename_i a n
    obtain ⟨o, ho, hm⟩ := h2.obj hn
    have q2' : Post X.K W σ m2 H2 _ (match S1[n]? with
      | some (.lst _) => Res.ok (Src.lst n) S1
      | _ => .bad) := q2
    rw [ho] at q2'
    cases o with
    | lst ds =>
      obtain ⟨vs, h1, hr⟩ := hm
      exact .inl ⟨_, rfl, .inl ⟨vs, .inl (.inl h1), q2' m2 H2 Ext.refl h2 _ ⟨a, hn, rfl⟩⟩⟩
    | dct _ => exact q2'.elim
    | dcT _ => exact q2'.elim
    | tab _ _ => exact q2'.elim
    | ins _ _ => exact q2'.elim
  | _ => exact q2.elim)⟩
def enumOf : List D → M Src
  | [.tup ds] => ret (.enm ds)
  | [.loc n] => fun S => match S[n]? with
    | some (.lst _) => .ok (.enl n) S
    | _ => .bad
  | _ => fail
def mEnum (m : Env → M (List D)) : Env → M Src := fun r => bnd (m r) enumOf
theorem si_enum {a : Expr} {ms : Env → M (List D)} {p pos tpos : Pos} {elts : List Expr} {kk : Nat} (hg : Gl X "enumerate") (hm : X.mg "enumerate" = none) (ha : SA X W [a] ms) (hs : starEach [a] X.env = [(false, eval a X.env)] := by rfl) :
    SI X W (.Tuple elts kk tpos) (.Call (.Name "enumerate" p) [a] [] pos) (mEnum ms) := ⟨fun pins s σ H R I q => (pi_enumT hg hm ha hs).run pins s σ H R I (by
  obtain ⟨r, mu, S, hS, he, hp⟩ := q
  refine ⟨r, mu, S, hS, he, hp.bnd.imp fun x S1 mu1 H1 ex hS1 q1 vs rv => ?_⟩
  unfold enumOf at q1
  split at q1
  · cases rv with
    | cons r1 rr =>
      cases rr
      cases r1 with
      | tup hd h1 h2 => exact ⟨_, _, rfl, .inr ⟨sqT_t h1, q1 mu1 H1 Ext.refl hS1 _ ⟨_, _, h2, sqT_t h1, rfl⟩⟩⟩
  · cases rv with
    | cons r1 rr =>
      cases rr
      cases r1 with
      | loc hn =>
        obtain ⟨o, ho, hm'⟩ := hS1.obj hn
        simp only [ho] at q1
        cases o with
        | lst ds =>
          obtain ⟨us, h1, h2⟩ := hm'
          exact ⟨_, us, rfl, .inl ⟨.inl (.inl h1), q1 mu1 H1 Ext.refl hS1 _ ⟨_, hn, rfl⟩⟩⟩
        | dct _ => exact q1.elim
        | dcT _ => exact q1.elim
        | tab _ _ => exact q1.elim
        | ins _ _ => exact q1.elim
  · exact q1.elim)⟩
theorem rngOk_of {j : Int} (h : rngOk j = true) : -(2 ^ 62) ≤ j ∧ j < 2 ^ 62 := by
  unfold rngOk at h
  rw [Bool.and_eq_true] at h
  exact ⟨of_decide_eq_true h.1, of_decide_eq_true h.2⟩
theorem si_range1 {a : Expr} {ms : Env → M (List D)} {p pos : Pos} (hg : Gl X "range") (hm : X.mg "range" = none) (ha : SA X W [a] ms) (hs : starEach [a] X.env = [(false, eval a X.env)] := by rfl) : SI X W tg (.Call (.Name "range" p) [a] [] pos) (mRng1 ms) := ⟨fun pins s σ H R I q => (pi_range1 hg hm ha hs).run pins s σ H R I (by
  obtain ⟨r, mu, S, hS, he, hp⟩ := q
  refine ⟨r, mu, S, hS, he, hp.bnd.imp fun ds S1 m2 H2 ex h2 q2 vs rv => ?_⟩
  match ds, vs, rv, q2 with
  | [.int j], _, .cons (.int _) .nil, q2 =>
    have q2' : Post X.K W σ m2 H2 _ ((if rngOk j = true then ret (Src.rng 0 j.toNat) else fail) S1) := q2
    by_cases hj : rngOk j = true
    · rw [if_pos hj] at q2'
      exact ⟨j, rfl, (rngOk_of hj).1, (rngOk_of hj).2, q2' m2 H2 Ext.refl h2 _ rfl⟩
    · rw [if_neg hj] at q2'
      exact q2'.elim
  | [], _, _, q2 => exact q2.elim
  | x :: _ :: _, _, _, q2 => cases x <;> exact q2.elim
  | [.non], _, _, q2 => exact q2.elim
  | [.bl _], _, _, q2 => exact q2.elim
  | [.str _], _, _, q2 => exact q2.elim
  | [.tup _], _, _, q2 => exact q2.elim
  | [.rls _], _, _, q2 => exact q2.elim
  | [.loc _], _, _, q2 => exact q2.elim
  | [.adr _], _, _, q2 => exact q2.elim
  | [.ty _], _, _, q2 => exact q2.elim)⟩
theorem si_range2 {a b : Expr} {ms : Env → M (List D)} {p pos : Pos} (hg : Gl X "range") (hm : X.mg "range" = none) (ha : SA X W [a, b] ms) (hs : starEach [a, b] X.env = [(false, eval a X.env), (false, eval b X.env)] := by rfl) (hs2 : starEach [b] X.env = [(false, eval b X.env)] := by rfl) :
    SI X W tg (.Call (.Name "range" p) [a, b] [] pos) (mRng2 ms) := ⟨fun pins s σ H R I q => (pi_range2 hg hm ha hs hs2).run pins s σ H R I (by
  obtain ⟨r, mu, S, hS, he, hp⟩ := q
  refine ⟨r, mu, S, hS, he, hp.bnd.imp fun ds S1 m2 H2 ex h2 q2 vs rv => ?_⟩
  unfold rngOf2 at q2
  split at q2
  · rename_i i j
    by_cases hj : (rngOk i && rngOk j) = true
    · rw [if_pos hj] at q2
      rw [Bool.and_eq_true] at hj
      match vs, rv with
      | _, .cons (.int _) (.cons (.int _) .nil) =>
        exact ⟨i, j, rfl, ⟨(rngOk_of hj.1).1, (rngOk_of hj.1).2, (rngOk_of hj.2).1, (rngOk_of hj.2).2⟩, q2 m2 H2 Ext.refl h2 _ rfl⟩
    · rw [if_neg hj] at q2
      exact q2.elim
  · exact q2.elim)⟩
end
/-! ### for -/
def forGo (src : Src) (g : Tg) (body : Env → Sto → Out) : Nat → Nat → Env → Sto → Out
  | 0, i, r, S => match nextD src i S with
    | some none => .nx r S
    | _ => .bad
  | k + 1, i, r, S => match nextD src i S with
    | some none => .nx r S
    | none => .bad
    | some (some d) => match g d r S with
      | .err x S' => .ex x r S'
      | .bad => .bad
      | .ok r' S' => match body r' S' with
        | .nx r2 S2 => forGo src g body k (i + 1) r2 S2
        | .ct r2 S2 => forGo src g body k (i + 1) r2 S2
        | .bk r2 S2 => .nx r2 S2
        | o => o
def sFor (m : Env → M Src) (g : Tg) (body : Env → Sto → Out) : Env → Sto → Out := bndO m fun src r S => forGo src g body (turns src S) 0 r S
theorem ss_for {X : Cx} {W : WX} {tg iter : Expr} {body : List Stmt} {m : Env → M Src} {vs : List Nat} {g : Tg} {b : Env → Sto → Out} {pos : Pos} (hp : PassesOwn (model X.prog X.w) X.A X.env X.xe) (hc : X.calm = true) (hi : SI X W tg iter m) (hg : SG X W tg vs g) (hb : SB X W body b)
    (hs : ∀ x, foldedSetIterable iter X.env x = pure x := by intro _; rfl) : SS X W (.For tg iter body [] pos) (sFor m g b) := psI (ps_for hp hc hi hg hb hs) fun D σ H q => by
  obtain ⟨r, mu, S, hS, he, hp⟩ := q
  refine ⟨r, mu, S, hS, he, ?_⟩
  unfold sFor bndO at hp
  cases e : m r S with
  | err x S' => rw [e] at hp; exact fun m2 H2 cl dd e2 h2 rx => hp m2 H2 σ cl dd e2 h2 (he.mono e2) rx
  | bad => rw [e] at hp; exact hp
  | ok src S' =>
    rw [e] at hp
    intro m2 H2 e2 h2 J hJ
    refine ⟨fun i k σ H => ∃ r mu S, HRep X.K mu H S ∧ ERep X.K mu H σ r ∧ ItOk X.K mu H src J ∧ PostO X.K W D mu H (forGo src g b k i r S), ⟨turns src S', r, m2, S', h2, he.mono e2, hJ, hp.later e2⟩, fun i k σ H hW => ?_⟩
    obtain ⟨r, mu, S, hS, he, hJ, hp⟩ := hW
    cases en : nextD src i S with
    | none =>
      exfalso
      cases k with
      | zero => unfold forGo at hp; rw [en] at hp; exact hp
      | succ k => unfold forGo at hp; rw [en] at hp; exact hp
    | some o =>
      cases o with
      | none =>
        left
        refine ⟨hJ.stop hS en, ?_⟩
        cases k with
        | zero => unfold forGo at hp; rw [en] at hp; exact hp mu H σ Ext.refl hS he
        | succ k => unfold forGo at hp; rw [en] at hp; exact hp mu H σ Ext.refl hS he
      | some d =>
        right
        obtain ⟨hgo, hy⟩ := hJ.go hS en
        cases k with
        | zero => unfold forGo at hp; rw [en] at hp; exact hp.elim
        | succ k =>
          refine ⟨hgo, fun σ H => ∃ r mu S, HRep X.K mu H S ∧ ERep X.K mu H σ r ∧ ItOk X.K mu H src J ∧ PostO X.K W D mu H (forGo src g b k (i + 1) r S), fun σ' H' hN => ⟨k, Nat.lt_succ_self k, hN⟩, fun x H' y => ?_⟩
          obtain ⟨exy, hSy, rx⟩ := hy x H' y
          replace hS := hSy
          replace he := he.mono exy
          replace hp := hp.later exy
          replace hJ := hJ.mono exy
          refine ⟨r, mu, S, d, hS, he, rx, ?_⟩
          unfold forGo at hp
          simp only [en] at hp
          cases eg : g d r S with
          | err x S' => simp only [eg] at hp; exact fun m3 H3 cl dd e3 h3 rx => hp m3 H3 σ cl dd e3 h3 (he.mono e3) rx
          | bad => simp only [eg] at hp; exact hp
          | ok r' S' =>
            simp only [eg] at hp
            intro m3 H3 e3 h3 σ3 he3 _
            refine ⟨r', m3, S', h3, he3, ?_⟩
            cases eb : b r' S' with
            | nx r2 S2 => rw [eb] at hp; exact fun m4 H4 σ4 e4 h4 q4 => ⟨r2, m4, S2, h4, q4, (hJ.mono e3).mono e4, (hp.later e3).later e4⟩
            | ct r2 S2 => rw [eb] at hp; exact fun m4 H4 σ4 e4 h4 q4 => ⟨r2, m4, S2, h4, q4, (hJ.mono e3).mono e4, (hp.later e3).later e4⟩
            | bk r2 S2 => rw [eb] at hp; exact fun m4 H4 σ4 e4 h4 q4 => hp m4 H4 σ4 (e3.trans e4) h4 q4
            | rt d2 S2 => rw [eb] at hp; exact fun m4 H4 σ4 e4 h4 q4 => hp m4 H4 σ4 (e3.trans e4) h4 q4
            | ex x r2 S2 => rw [eb] at hp; exact fun m4 H4 σ4 cl dd e4 h4 q4 q5 => hp m4 H4 σ4 cl dd (e3.trans e4) h4 q4 q5
            | bad => rw [eb] at hp; exact hp
/-! ### list comprehensions -/
def wipeE (r : Env) : List Nat → Env
  | [] => r
  | v :: vs => (wipeE r vs).set v none
theorem ERep.wipe {K : PySem.W.Frag} {mu : List Addr} {H : Hp} {σ : L2.St} {r : Env} (h : ERep K mu H σ r) : ∀ vs : List Nat, ERep K mu H (wipe σ vs) (wipeE r vs)
  | [] => h
  | v :: vs => setN v (ERep.wipe h vs)
where
  setN {K : PySem.W.Frag} {mu : List Addr} {H : Hp} : ∀ {s : L2.St} {r : Env} (i : Nat), ERep K mu H s r → ERep K mu H (s.set i none) (r.set i none)
    | _, _, _, .nil => .nil
    | _, _, 0, .cons _ t => .cons trivial t
    | _, _, i + 1, .cons q t => .cons q (setN i t)
def push (n : Nat) (d : D) : Sto → Option Sto := fun S => match S[n]? with
  | some (.lst ds) => if ds.length < sizeLine then some (S.set n (.lst (ds ++ [d]))) else none
  | _ => none
def lcGo (src : Src) (g : Tg) (t : Env → M Bool) (e : Env → M D) (n : Nat) (r : Env) : Nat → Nat → Sto → Res D
  | 0, i, S => match nextD src i S with
    | some none => .ok (.loc n) S
    | _ => .bad
  | k + 1, i, S => match nextD src i S with
    | some none => .ok (.loc n) S
    | none => .bad
    | some (some d) => match g d r S with
      | .ok r' S' => match t r' S' with
        | .ok true S2 => match e r' S2 with
          | .ok y S3 => match push n y S3 with
            | some S4 => lcGo src g t e n r k (i + 1) S4
            | none => .bad
          | _ => .bad
        | .ok false S2 => lcGo src g t e n r k (i + 1) S2
        | _ => .bad
      | _ => .bad
def mLc (m : Env → M Src) (g : Tg) (t : Env → M Bool) (e : Env → M D) (vs : List Nat) : Env → M D := fun r => bnd (m r) fun src S => lcGo src g t e S.length (wipeE r vs) (turns src S) 0 (S ++ [.lst []])
abbrev W0 : WX := fun _ _ _ _ => False
theorem push_of {K : PySem.W.Frag} {mu : List Addr} {H : Hp} {S S' : Sto} {n : Nat} {d : D} {a : Addr} {v : V} (hS : HRep K mu H S) (hn : mu[n]? = some a) (rv : Rep K mu H v d) (h : push n d S = some S') : ∃ acc, H a = some (.lst acc) ∧ acc.length < sizeLine ∧ Ext mu H mu (upd H a (.lst (acc ++ [v]))) ∧ HRep K mu (upd H a (.lst (acc ++ [v]))) S' := by
  obtain ⟨o, ho, hm⟩ := hS.obj hn
  unfold push at h
  rw [ho] at h
  cases o with
  | lst ds =>
    obtain ⟨vs, h1, hr⟩ := hm
    by_cases hl : ds.length < sizeLine
    · have h' : (if ds.length < sizeLine then some (S.set n (.lst (ds ++ [d]))) else none) = some S' := h
      rw [if_pos hl] at h'
      cases h'
      have ex : Ext mu H mu (upd H a (.lst (vs ++ [v]))) := ext_put hn h1 trivial
      refine ⟨vs, h1, by rw [hr.length]; exact hl, ex, hS.put (u' := .lst vs) hn ex ⟨_, upd_same, (hr.append (.cons rv .nil)).mono ex⟩⟩
    · have h' : (if ds.length < sizeLine then some (S.set n (.lst (ds ++ [d]))) else none) = some S' := h
      rw [if_neg hl] at h'
      cases h'
  | dct _ => cases h
  | dcT _ => cases h
  | tab _ _ => cases h
  | ins _ _ => cases h
structure PTsS (X : Cx) (ifs : List Expr) (t : Env → M Bool) : Prop where
  to : PTs X ifs (rdT X.K W0 t)
def tT : Env → M Bool := fun _ => ret true
theorem pts0 {X : Cx} : PTs X [] (rdT X.K W0 tT) := ⟨fun p s σ H Q I q => pts_nil.run p s σ H Q I (by
  obtain ⟨r, mu, S, hS, he, hp⟩ := q
  exact hp mu H Ext.refl hS)⟩
theorem lc_go {X : Cx} {W : WX} {m : Env → M Src} {vs : List Nat} {g : Tg} {t : Env → M Bool} {e : Env → M D} {σ : L2.St} {H : Hp} {Q : VK} (q : rdE X.K W (mLc m g t e vs) σ H Q) : tLc (rdI X.K W m) (rdG X.K W0 vs g) (rdT X.K W0 t) (rdE X.K W0 e) vs σ H Q := by
  obtain ⟨r, mu, S, hS, he, hp⟩ := q
  refine ⟨r, mu, S, hS, he, hp.bnd.imp fun src S1 m2 H2 ex h2 q2 J hJ D hD => ?_⟩
  have hn : (m2 ++ [D])[S1.length]? = some D := by rw [h2.len]; simp
  refine ⟨fun i k H => ∃ mu S, HRep X.K mu H S ∧ Ext (m2 ++ [D]) (upd H2 D (.lst [])) mu H ∧ Post X.K W σ mu H (fun d _ mu' H' => ∀ v, Rep X.K mu' H' v d → Q v H') (lcGo src g t e S1.length (wipeE r vs) k i S), ⟨turns src S1, m2 ++ [D], S1 ++ [.lst []], h2.new (o := .lst []) hD ⟨[], upd_same, .nil⟩, Ext.refl, q2.later (ext_new hD)⟩, fun i k H hW => ?_⟩
  obtain ⟨mu, S, hS, ex2, hp⟩ := hW
  have hJ' := (hJ.mono (ext_new hD)).mono ex2
  have he' := ((he.mono ex).mono (ext_new (u := .lst []) hD)).mono ex2
  have hn' := ex2.get hn
  cases en : nextD src i S with
  | none =>
    exfalso
    cases k with
    | zero => unfold lcGo at hp; rw [en] at hp; exact hp
    | succ k => unfold lcGo at hp; rw [en] at hp; exact hp
  | some o =>
    cases o with
    | none =>
      left
      refine ⟨hJ'.stop hS en, ?_⟩
      cases k with
      | zero => unfold lcGo at hp; rw [en] at hp; exact hp mu H Ext.refl hS _ (.loc hn')
      | succ k => unfold lcGo at hp; rw [en] at hp; exact hp mu H Ext.refl hS _ (.loc hn')
    | some d =>
      right
      obtain ⟨hgo, hy⟩ := hJ'.go hS en
      cases k with
      | zero => unfold lcGo at hp; rw [en] at hp; exact hp.elim
      | succ k =>
        refine ⟨hgo, fun H => ∃ mu S, HRep X.K mu H S ∧ Ext (m2 ++ [D]) (upd H2 D (.lst [])) mu H ∧ Post X.K W σ mu H (fun d _ mu' H' => ∀ v, Rep X.K mu' H' v d → Q v H') (lcGo src g t e S1.length (wipeE r vs) k (i + 1) S), fun H' hN => ⟨k, Nat.lt_succ_self k, hN⟩, fun x H' y => ?_⟩
        obtain ⟨exy, hSy, rx⟩ := hy x H' y
        replace hS := hSy
        replace he' := he'.mono exy
        replace hp := hp.later exy
        replace ex2 := ex2.trans exy
        refine ⟨wipeE r vs, mu, S, d, hS, he'.wipe vs, rx, ?_⟩
        unfold lcGo at hp
        simp only [en] at hp
        cases eg : g d (wipeE r vs) S with
        | err x S' => simp only [eg] at hp; exact hp.elim
        | bad => simp only [eg] at hp; exact hp
        | ok r' S' =>
          simp only [eg] at hp
          intro m3 H3 e3 h3 σ3 he3 hw
          have wi2 : wipe (wipe σ vs) vs = wipe σ vs := wipe_twice σ vs
          refine ⟨by rw [hw, wi2], r', m3, S', h3, he3, ?_⟩
          cases et : t r' S' with
          | err x S2 => rw [et] at hp; exact hp.elim
          | bad => rw [et] at hp; exact hp
          | ok kk S2 =>
            rw [et] at hp
            intro m4 H4 e4 h4
            cases kk with
            | false =>
              rw [if_neg Bool.false_ne_true]
              exact ⟨m4, S2, h4, (ex2.trans e3).trans e4, (hp.later e3).later e4⟩
            | true =>
              rw [if_pos rfl]
              refine ⟨r', m4, S2, h4, he3.mono e4, ?_⟩
              cases ee : e r' S2 with
              | err x S3 => simp only [ee] at hp; exact hp.elim
              | bad => simp only [ee] at hp; exact hp
              | ok yv S3 =>
                simp only [ee] at hp
                intro m5 H5 e5 h5 v rv
                cases ep : push S1.length yv S3 with
                | none => rw [ep] at hp; exact hp.elim
                | some S4 =>
                  rw [ep] at hp
                  obtain ⟨acc, p1, p2, p3, p4⟩ := push_of h5 (((e3.trans e4).trans e5).get hn') rv ep
                  exact ⟨acc, p1, p2, m5, S4, p4, (((ex2.trans e3).trans e4).trans e5).trans p3, (((hp.later e3).later e4).later e5).later p3⟩
where
  wipe_twice (σ : L2.St) (vs : List Nat) : wipe (wipe σ vs) vs = wipe σ vs := by
    have : ∀ ws : List Nat, (∀ i ∈ ws, i ∈ vs) → wipe (wipe σ vs) ws = wipe σ vs := by
      intro ws
      induction ws with
      | nil => intro _; rfl
      | cons j ws ih =>
        intro h
        show (wipe (wipe σ vs) ws).set j none = wipe σ vs
        rw [ih fun i hi => h i (List.mem_cons_of_mem _ hi)]
        rw [← wipe_swap, wipe_set]
        exact h j List.mem_cons_self
    exact this vs fun _ h => h
theorem se_lc {X : Cx} {W : WX} {elt tg iter : Expr} {ifs : List Expr} {scope : Scope} {own : List (Str × Nat)} {pos : Pos} {m : Env → M Src} {g : Tg} {t : Env → M Bool} {e : Env → M D} (hc : X.calm = true) (hN : X.N.Nodup) (hi : SI X W tg iter m) (ok : BlkOk X.N X.env.scope scope own)
    (hg : ∀ (s : Shared) (H : Hp) (C : Addr) (cl : List (Str × Addr)) (fp : List Addr), SG (X.blk s H scope (compEnvC scope cl C X.env) fp) W0 tg (own.map (·.2)) g)
    (ht : ∀ (s : Shared) (H : Hp) (C : Addr) (cl : List (Str × Addr)) (fp : List Addr), PTs (X.blk s H scope (compEnvC scope cl C X.env) fp) ifs (rdT X.K W0 t))
    (he : ∀ (s : Shared) (H : Hp) (C : Addr) (cl : List (Str × Addr)) (fp : List Addr), SE (X.blk s H scope (compEnvC scope cl C X.env) fp) W0 elt e) (hs : ∀ x, foldedSetIterable iter X.env x = pure x := by intro _; rfl) :
    SE X W (.ListComp elt [⟨tg, iter, ifs, 0⟩] scope pos) (mLc m g t e (own.map (·.2))) := peI (pe_lc hc hN hi ok hg ht he hs) fun σ H Q q => lc_go q
theorem ss_setLc {X : Cx} {W : WX} {i : Nat} {y : Str} {py : Pos} {elt tg iter : Expr} {ifs : List Expr} {scope : Scope} {own : List (Str × Nat)} {pos spos : Pos} {m : Env → M Src} {g : Tg} {t : Env → M Bool} {e : Env → M D} (hc : X.calm = true) (hN : X.N.Nodup) (hy : X.N[i]? = some y) (hyl : X.env.scope.names.lookup y = some .local)
    (hsw : swapsWith (.ListComp elt [⟨tg, iter, ifs, 0⟩] scope pos) (some (.Name y py)) spos.line X.env = pure true) (hi : SI X W tg iter m) (ok : BlkOk X.N X.env.scope scope own)
    (hg : ∀ (s : Shared) (H : Hp) (C : Addr) (cl : List (Str × Addr)) (fp : List Addr), SG (X.blk s H scope (compEnvC scope cl C X.env) fp) W0 tg (own.map (·.2)) g)
    (ht : ∀ (s : Shared) (H : Hp) (C : Addr) (cl : List (Str × Addr)) (fp : List Addr), PTs (X.blk s H scope (compEnvC scope cl C X.env) fp) ifs (rdT X.K W0 t))
    (he : ∀ (s : Shared) (H : Hp) (C : Addr) (cl : List (Str × Addr)) (fp : List Addr), SE (X.blk s H scope (compEnvC scope cl C X.env) fp) W0 elt e) (hs : ∀ x, foldedSetIterable iter X.env x = pure x := by intro _; rfl) :
    SS X W (.Assign [.Name y py] (.ListComp elt [⟨tg, iter, ifs, 0⟩] scope pos) spos) (sAs (mLc m g t e (own.map (·.2))) (gN i)) := psI (ps_setLc hc hN hy hyl hsw hi ok hg ht he hs) fun D σ H q => lc_go (by
  obtain ⟨r, mu, S, hS, he, hp⟩ := as_go (vs := [i]) q
  refine ⟨r, mu, S, hS, he, hp.imp fun d S1 m2 H2 ex h2 q2 v rv => ?_⟩
  obtain ⟨r', mu', S', d', h1, h3, h4, h5⟩ := q2 v rv
  exact h5 mu' H2 Ext.refl h1 _ (h3.set h4 i) (wipe_set _ _ _ _ (List.mem_singleton.mpr rfl)))
end Fa
namespace Fa
open PySem PySem.Spec PyProof.Rows L2
/-! ### defs: called where no repr runs -/
def prom (K : PySem.W.Frag) (F : List D → M D) : Sp := fun vs H Q E => ∃ ds mu S, HRep K mu H S ∧ Reps K mu H vs ds ∧ Post K (fun c d _ H => E c d H) [] mu H (fun d _ mu' H' => ∀ v, Rep K mu' H' v d → Q v H') (F ds S)
def FnG (P : Program) (w : World) (K : PySem.W.Frag) (mg : Str → Option Value) (base : Heap) (k : Nat) (f : Addr) (fd : FuncData) (ps : List Str) (F : List D → M D) : Prop :=
  ∀ (A : Around) (outer : List PySem.Env) (s : Shared) (H : Hp) (ar : Args) (us : List Value) (vs : List V) (Q : VK) (E : XK), Room k A → A.guards = some [] → Env0 P w K mg base A outer s H →
    BindsTo s fd ar (ps.zip us) → Vals vs us → vs.length = ps.length → prom K F vs H Q E → codeAny (model P w) A (.call (.ref f) ar) (CR (L2.CX P w) outer P w H s Q E) s
theorem FnG.mono {P : Program} {w : World} {K : PySem.W.Frag} {mg : Str → Option Value} {base : Heap} {j k : Nat} {f : Addr} {fd : FuncData} {ps : List Str} {F : List D → M D} (G : FnG P w K mg base j f fd ps F) (h : j ≤ k) : FnG P w K mg base k f fd ps F :=
  fun A outer s H ar us vs Q E hr => G A outer s H ar us vs Q E (hr.mono h)
/-- the def's function: n names, np parameters -/
def fnM (n np : Nat) (body : Env → Sto → Out) : List D → M D := fun ds S => if ds.length = np then
    match body (ds.map some ++ List.replicate (n - np) none) S with
    | .nx _ S' => .ok .non S'
    | .rt d S' => .ok d S'
    | .ex x _ S' => .err x S'
    | _ => .bad
  else .bad
theorem erep_start {K : PySem.W.Frag} {mu : List Addr} {H : Hp} (n : Nat) : ∀ {vs : List V} {ds : List D}, Reps K mu H vs ds → ERep K mu H (vs.map some ++ List.replicate n none) (ds.map some ++ List.replicate n none)
  | _, _, .nil => by
    induction n with
    | zero => exact .nil
    | succ n ih => exact .cons trivial ih
  | _, _, .cons h t => .cons h (erep_start n t)
abbrev WF (E : XK) : WX := fun c d _ H => E c d H
theorem fnG_mk {P : Program} {w : World} {K : PySem.W.Frag} {mg : Str → Option Value} {base : Heap} {x qual : Str} {st : Stmt} {f : Addr} {fd : FuncData} {N ps : List Str} {k : Nat} {m : Env → Sto → Out} (Fu : Fun K x qual st f fd) (sc : FnScope N ps (defScope st))
    (hb : ∀ (cdv : Value) (A : Around) (outer : List PySem.Env) (s : Shared) (H : Hp) (E : XK), Room k (A.deeper (envOfC qual (defScope st) s.heap.objs.size f cdv)) → A.guards = some [] →
      Takes (cxOf (L2.CX P w) P w K mg base N qual (defScope st) f cdv A outer s H E) (WF E) → SB (cxOf (L2.CX P w) P w K mg base N qual (defScope st) f cdv A outer s H E) (WF E) (defBody st) m) :
    FnG P w K mg base (k + 1) f fd ps (fnM N.length ps.length m) := by
  intro A outer s H ar us vs Q E hr hgd e0 hbi rv hl hpr
  obtain ⟨oc, od, kV, doc, pm, an, cdv, ct, osl, rfl, lk, hcd⟩ := Fu.ex
  have kept : ∀ b o, base.get? b = some o → s.heap.get? b = some o := fun b o q => (e0.bs b o q).1
  have KX : K.In s.heap := e0.mod.kin.keeps kept
  have hkind : ∀ y ∈ ps.zip us, (defScope st).names.lookup y.1 = some .local ∨ ((defScope st).names.lookup y.1 = some .cell ∧ ((cellsFrom (s.heap.objs.size + 1) (defScope st).names []).lookup y.1).isSome = true) := by
    intro y hy
    rcases sc.par y.1 (List.of_mem_zip (a := y.1) (b := y.2) hy).1 with z | z
    · exact Or.inl z
    · exact Or.inr ⟨z, PySem.W.cellsFrom_some _ _ _ (.inl z)⟩
  refine codeAny_call_function hr.depth (KX _ _ lk) rfl sc.co sc.gen rfl (PySem.W.codeRec_of KX hcd) (hbi _ _ _ _ ?_)
  refine wpAny_newFunctionEnv_cells sc.kind hkind fun env he s1 inC => ?_
  subst he
  refine ⟨(e0.mod.nolimit.keeps kept).keeps inC.toInCall.keep, codeAny_func ?_⟩
  have I := inv_start (CX := L2.CX P w) (E := E) sc hr.hd e0 hl rv inC
  have B := hb cdv A outer s H E (hr.deeper _) hgd (takes_of rfl rfl rfl rfl)
  obtain ⟨ds, mu, S, hS, hrs, hp⟩ := hpr
  refine wpAny_mono (B.run [] s1 (start N vs) H { nx := fun _ H' => Q .non H', rt := Q } I ?_) (fun fl s' hs => ?_) fun e s' hs => hs
  · refine ⟨_, mu, S, hS, erep_start _ hrs, ?_⟩
    rw [hl]
    have hl2 : ds.length = ps.length := by rw [← hrs.length]; exact hl
    unfold fnM at hp
    rw [if_pos hl2] at hp
    cases eo : m (ds.map some ++ List.replicate (N.length - ps.length) none) S with
    | nx r S' => rw [eo] at hp; exact fun m2 H2 σ2 e2 h2 _ => hp m2 H2 e2 h2 _ .non
    | rt d S' => rw [eo] at hp; exact fun m2 H2 v e2 h2 q2 => hp m2 H2 e2 h2 v q2
    | bk r S' => rw [eo] at hp; exact hp.elim
    | ct r S' => rw [eo] at hp; exact hp.elim
    | ex z r S' => rw [eo] at hp; exact fun m2 H2 σ2 c dd e2 h2 _ q2 => hp m2 H2 c dd e2 h2 q2
    | bad => rw [eo] at hp; exact hp
  · cases fl with
    | ret u =>
      obtain ⟨v, σ', H', J, r', q⟩ := hs
      exact ⟨v, H', J.os, J.bare, J.base, J.hok, r', q⟩
    | next =>
      obtain ⟨σ', H', J, q⟩ := hs
      exact ⟨V.non, H', J.os, J.bare, J.base, J.hok, rfl, q⟩
    | brk => exact hs.elim fun _ z => z.elim fun _ z => z.2.elim
    | cont => exact hs.elim fun _ z => z.elim fun _ z => z.2.elim
/-! ### calls of defs -/
section
variable {X : Cx} {W : WX} {k : Nat} {f : Addr} {fd : FuncData} {ps ks : List Str} {F : List D → M D} {x : Str} {p pos : Pos} {e : Expr} {es : List Expr} {kws : List Keyword} {ms mk : Env → M (List D)}
theorem runG {pins : List (Addr × Obj)} {σ : L2.St} {H : Hp} {s : Shared} {Q : VK} {ar : Args} {us : List Value} {vs : List V} (G : FnG X.prog X.w X.K X.mg X.base k f fd ps F) (hr : Room k X.A) (hgd : X.A.guards = some []) (tk : Takes X W)
    (I : Inv X pins σ H s) (hbi : BindsTo s fd ar (ps.zip us)) (rv : Vals vs us) (hl : vs.length = ps.length) (h : prom X.K F vs H Q (WE W σ)) : wpAny (model X.prog X.w) X.A (call (.ref f) ar.pos ar.kw) (EP X pins σ Q) X.xe s := by
  refine wpAny_call (codeAny_mono (G X.A X.stack s H ar us vs Q (WE W σ) hr hgd I.env0 hbi rv hl h) fun res s' hq => ?_)
  cases res with
  | error y => exact passAt tk σ pins H s y s' I hq
  | ok fl =>
    cases fl with
    | ret u => exact I.after hq
    | _ => exact False.elim hq
theorem prom_of {σ : L2.St} {mu : List Addr} {H : Hp} {S : Sto} {ds : List D} {vs : List V} {Q : VK} (hS : HRep X.K mu H S) (hr : Reps X.K mu H vs ds) (h : Post X.K W σ mu H (fun d _ mu' H' => ∀ v, Rep X.K mu' H' v d → Q v H') (F ds S)) : prom X.K F vs H Q (WE W σ) := by
  refine ⟨ds, mu, S, hS, hr, ?_⟩
  cases eo : F ds S with
  | ok d S' => rw [eo] at h; exact h
  | err z S' => rw [eo] at h; exact h
  | bad => rw [eo] at h; exact h
/-- how many arguments the def takes; with others it is not called here -/
def arity (n : Nat) (F : List D → M D) : Prop := ∀ ds S, ds.length ≠ n → F ds S = .bad
theorem fnM_arity {n np : Nat} {b : Env → Sto → Out} : arity np (fnM n np b) := fun ds S h => by
  unfold fnM
  rw [if_neg h]
theorem se_call (G : FnG X.prog X.w X.K X.mg X.base k f fd ps F) (hr : Room k X.A) (hgd : X.A.guards = some []) (tk : Takes X W) (hg : Gl X x) (hm : X.mg x = some (.ref f)) (hk : PySem.W.keepIn X.K (.ref f) = true) (hb : Binds X.K fd ps []) (ar : arity ps.length F)
    (ha : SA X W (e :: es) ms) (hdb : (x == ("__debug__" : Str)) = false := by decide) (he : starEach (e :: es) X.env = (false, eval e X.env) :: starEach es X.env := by rfl) (hpl : (backTo pos (starEach es X.env)).any (·.1) = false := by rfl) :
    SE X W (.Call (.Name x p) (e :: es) [] pos) (mA F ms) := by
  constructor
  intro pins s σ H Q I q
  obtain ⟨r, mu, S, hS, hE, hp⟩ := q
  refine wpAny_Call_Name_kw (ld_glob I hg hm ?_ hdb)
  have q1 : rdA X.K W ms σ H fun vs H1 => vs.length = ps.length ∧ prom X.K F vs H1 Q (WE W σ) := by
    refine ⟨r, mu, S, hS, hE, hp.bnd.imp fun ds S1 m2 H2 ex h2 q2 vs rv => ?_⟩
    refine ⟨?_, prom_of h2 rv q2⟩
    rw [rv.length]
    refine Decidable.byContradiction fun z => ?_
    rw [ar ds S1 z] at q2
    exact q2
  refine PySem.W.callWith_K (h₀ := X.base) I.ok.mod.kin hk (thn (ha.run pos pins s σ H _ I q1) fun us s1 z => ?_) he hpl
  obtain ⟨vs, H1, I1, rv, hl, hpr⟩ := z
  refine ⟨I1.kIn, runG (ar := ⟨us, []⟩) (us := us) G hr hgd tk I1 ?_ rv hl hpr⟩
  have b := hb s1 us I1.kIn (by rw [List.append_nil, ← rv.length]; exact hl)
  rwa [List.append_nil] at b
end
/-! ### the law's own call -/
theorem law_go {P : Program} {w : World} {K : PySem.W.Frag} {mg mb : Str → Option Value} {k : Nat} {fa a : Addr} {fd : FuncData} {x : Str} {F : List D → M D} {s : Shared} {vs : List Value} {ns : List Int}
    (KX : K.In s.heap) (hns : s.heap.Ns mainGlobals mg) (hbn : s.heap.Ns builtinsNs mb) (hbb : ∀ y : Str, y ≠ "__name__" → mb y = bootBuiltins y) (hlim : s.heap.NoLimit) (hgen : s.gens = #[])
    (ha : s.heap.get? a = some { cls := .type "list", data := .seq vs.toArray }) (hi : IntsAre vs ns) (hlen : ns.length ≤ sizeLine) (hr : Room k callerA)
    (hF : ∀ base : Heap, K.In base → base.Ns mainGlobals mg → FnG P w K mg base k fa fd [x] F) (hbi : ∀ (s : Shared) (u : Value), BindsTo s fd ⟨[u], []⟩ [(x, u)])
    (hG : ∃ S, F [.rls (ns.map D.int)] [] = .ok (.bl true) S) :
    codeAny (model P w) callerA (.call (.ref fa) ⟨[.ref a], []⟩) (fun r s' => r = .ok (.ret (.bool true)) ∧ OldK s.heap s'.heap ∧ s'.os = s.os ∧ AllBare s'.gens) s := by
  have rv : Vals (ns.map V.int) vs := vals_ints hi
  have reps : ∀ (H : Hp) (l : List Int), Reps K [] H (l.map V.int) (l.map D.int) := fun H l => by
    induction l with
    | nil => exact .nil
    | cons n l ih => exact .cons (.int n) ih
  -- H tracks nothing but, perhaps, the script
  have go : ∀ H : Hp, (∀ b, H b = none ∨ (b = a ∧ ∃ o xs, H b = some (.frz o (.lst xs)))) → SqR K H a (ns.map V.int) → HOk P w H s.heap → (∀ o, K.lookup a = some o → H a = none) →
      codeAny (model P w) callerA (.call (.ref fa) ⟨[.ref a], []⟩) (fun r s' => r = .ok (.ret (.bool true)) ∧ OldK s.heap s'.heap ∧ s'.os = s.os ∧ AllBare s'.gens) s := by
    intro H hO hS hok hK
    have keep : ∀ (b : Addr) (o : Obj), s.heap.get? b = some o → (∀ es ep, o.data = .dict es ep → H b = none) := fun b o e es ep d => by
      rcases hO b with z | ⟨rfl, _⟩
      · exact z
      · rw [ha] at e
        cases e
        cases d
    have nsK : ∀ {b : Addr} {m : Str → Option Value}, s.heap.Ns b m → (hidT s.heap H).Ns b m := fun {b m} n => by
      obtain ⟨o, es, ep, e, d, rest⟩ := n
      exact ⟨o, es, ep, hidT_get e (keep b o e es ep d), d, rest⟩
    have kb : K.In (hidT s.heap H) := fun b o e => hidT_get (KX b o e) (by
      rcases hO b with z | ⟨rfl, _⟩
      · exact z
      · exact hK o e)
    have md : Mod K mg (hidT s.heap H) := by
      obtain ⟨mc, h1, h2⟩ := hlim
      exact ⟨kb, nsK hns, ⟨mb, nsK hbn, hbb⟩, ⟨mc, nsK h1, h2⟩⟩
    have e0 : Env0 P w K mg (hidT s.heap H) callerA [] s H := ⟨rfl, md, fun b o e => of_hidT e, Nat.le_of_eq (hidT_size _ _), trivial, fun b hb => absurd (show b ∈ ([] : List Addr) from hb) (by simp), hok, .of_eq hgen⟩
    obtain ⟨S, eS⟩ := hG
    have pr : prom K F [.ref a] H (fun v _ => v = .bl true) (fun _ _ _ => False) := by
      refine ⟨[.rls (ns.map D.int)], [], [], ⟨rfl, List.nodup_nil, fun n o b e => by simp at e⟩, .cons (.rls hS (reps H ns)) .nil, ?_⟩
      rw [eS]
      intro m2 H2 _ _ v q
      cases q
      rfl
    refine codeAny_mono (hF _ kb (nsK hns) callerA [] s H ⟨[.ref a], []⟩ [.ref a] [.ref a] _ _ hr rfl e0 (hbi s (.ref a)) (.cons rfl .nil) rfl pr) fun res s' h => ?_
    cases res with
    | error e =>
      obtain ⟨_, _, _, _, _, _, _, _, _, _, _, _, z⟩ := h
      exact z.elim
    | ok fl =>
      cases fl with
      | ret u =>
        obtain ⟨v, H', os, bare, un, hok', r', q⟩ := h
        obtain rfl : v = .bl true := q
        cases r'
        refine ⟨rfl, OldK.of_keep fun b o e => ?_, os, bare⟩
        rcases hO b with z | ⟨_, ob, xs, z⟩
        · exact un.keep b o e z (fun y => absurd (show b ∈ ([] : List Addr) from y) (by simp)) (by simp)
        · have z2 := (hok' b _ (un.frzs b ob _ z)).1
          have z1 := (hok b _ z).1
          rw [e] at z1
          cases z1
          exact z2
      | _ => exact False.elim h
  cases hk : K.lookup a with
  | some o =>
    have e := KX a o hk
    rw [ha] at e
    cases e
    exact go (fun _ => none) (fun _ => .inl rfl) (.inr ⟨_, vs.toArray, _, hk, rfl, rfl, rfl, by rw [List.size_toArray, hi.length]; exact hlen, rv⟩) (fun b u z => absurd (show (none : Option HO) = some u from z) (by simp)) fun _ _ => rfl
  | none =>
    refine go (upd (fun _ => none) a (.frz { cls := .type "list", data := .seq vs.toArray } (.lst (ns.map V.int)))) (fun b => ?_) (.inl ⟨_, upd_same⟩) (fun b u z => ?_) fun o e => absurd (hk.symm.trans e) (by simp)
    · by_cases hb : b = a
      · subst hb
        exact .inr ⟨rfl, _, _, upd_same⟩
      · exact .inl (upd_ne hb)
    · by_cases hb : b = a
      · subst hb
        rw [upd_same] at z
        cases z
        exact ⟨ha, by rw [List.length_map]; exact hlen, vs, _, rv, ha⟩
      · rw [upd_ne hb] at z
        cases z
theorem law_walk {l : PySem.W.OpenLaw} {n k : Nat} {q : Program} {loose : List Str} {XP : (Str → Option Value) → Heap → Prop} {YP : World → Heap → Prop} {d : DefRec} {K : Params → PySem.W.Frag} {x : Str}
    (hn : l.most = some n) (hn2 : n ≤ sizeLine) (hdf : d.params.defaults = []) (hr : Room k callerA) (hY : ∀ (w : World) (h : Heap), YP w h → (K w.params).In h)
    (hF : ∀ (w : World) (mg : Str → Option Value) (fa : Addr) (h : Heap), (K w.params).In h → h.Ns mainGlobals mg → mg d.name = some (.ref fa) →
      ∃ (fd : FuncData) (F : List D → M D), (∀ (s : Shared) (u : Value), BindsTo s fd ⟨[u], []⟩ [(x, u)]) ∧ (∀ ns : List Int, ns.length ≤ n → ∃ S, F [.rls (ns.map D.int)] [] = .ok (.bl true) S) ∧
        ∀ base : Heap, (K w.params).In base → base.Ns mainGlobals mg → FnG l.prog w (K w.params) mg base k fa fd [x] F) :
    PySem.W.WalkO q loose XP YP l.row.toRowW d [] (fun f vs => PySem.call f vs) := by
  refine Att.attach_call hn hdf fun w s0 s1 mg mb fa o pm cd doc a vs ns G Y ho hd hcd hmg hobj hints hlen hg => ?_
  obtain ⟨fd, F, hb, hG, hf⟩ := hF w mg fa _ (hY w _ Y) G.T.g hmg
  exact law_go (hY w _ Y) G.T.g G.T.b G.T.builtins G.T.nolimit hg hobj hints (Nat.le_trans hlen hn2) hr hf hb (hG ns hlen)
end Fa
namespace Fa
open PySem PySem.Spec PyProof.Rows L2
/-! ### numbers -/
def i2 (C : Int → Int → Bool) (g : Int → Int → D) : D → D → M D
  | .int i, .int j => if C i j = true then ret (g i j) else fail
  | _, _ => fail
def i2b (g : Int → Int → Bool) : D → D → M D
  | .int i, .int j => ret (.bl (g i j))
  | _, _ => fail
def mulC (i j : Int) : Bool := (decide (-(2 ^ 64) < i) && decide (i < 2 ^ 64)) || (decide (-(2 ^ 64) < j) && decide (j < 2 ^ 64))
def divC (_ j : Int) : Bool := decide (j ≠ 0) && decide (j.natAbs < 1073741824)
def modC (_ j : Int) : Bool := decide (j ≠ 0)
def powC (i j : Int) : Bool := decide (0 ≤ j) && decide ((Builtin.Int.intBits i : Int) * j ≤ 2 ^ 27)
def subD : D → D → M D := i2 (fun _ _ => true) fun i j => .int (i - j)
def mulD : D → D → M D := i2 mulC fun i j => .int (i * j)
def fdivD : D → D → M D := i2 divC fun i j => .int (i.fdiv j)
def modD : D → D → M D := i2 modC fun i j => .int (i.fmod j)
def powD : D → D → M D := i2 powC fun i j => .int (i ^ j.toNat)
section
variable {X : Cx} {K : PySem.W.Frag}
theorem op2_i {C : Int → Int → Prop} {B : Int → Int → Bool} {g : Int → Int → V} {g' : Int → Int → D} (hC : ∀ i j, B i j = true → C i j) (hg : ∀ i j mu H, Rep K mu H (g i j) (g' i j)) : Op2 K (rI C g) (i2 B g') := by
  intro W σ mu H S x y v w Q hS rx ry hp
  cases rx <;> first | exact hp.elim | skip
  cases ry <;> first | exact hp.elim | skip
  rename_i i j
  have hp' : Post K W σ mu H _ ((if B i j = true then ret (g' i j) else fail) S) := hp
  by_cases h : B i j = true
  · rw [if_pos h] at hp'
    exact ⟨i, j, rfl, rfl, hC i j h, hp' mu H Ext.refl hS _ (hg i j mu H)⟩
  · rw [if_neg h] at hp'
    exact hp'.elim
theorem op2_i0 {g : Int → Int → V} {g' : Int → Int → D} (hg : ∀ i j mu H, Rep K mu H (g i j) (g' i j)) : Op2 K (rI0 g) (i2 (fun _ _ => true) g') := by
  intro W σ mu H S x y v w Q hS rx ry hp
  cases rx <;> first | exact hp.elim | skip
  cases ry <;> first | exact hp.elim | skip
  rename_i i j
  exact ⟨i, j, rfl, rfl, hp mu H Ext.refl hS _ (hg i j mu H)⟩
theorem o_sub : Op2 K (rI0 fun i j => .int (i - j)) subD := op2_i0 fun i j _ _ => .int _
theorem o_mul : Op2 K (rI CMul fun i j => .int (i * j)) mulD := op2_i (fun i j h => by
  unfold mulC at h
  simp only [Bool.or_eq_true, Bool.and_eq_true, decide_eq_true_eq] at h
  exact h) fun i j _ _ => .int _
theorem o_fdiv : Op2 K (rI CDivN fun i j => .int (i.fdiv j)) fdivD := op2_i (fun i j h => by
  unfold divC at h
  simp only [Bool.and_eq_true, decide_eq_true_eq] at h
  exact h) fun i j _ _ => .int _
theorem o_mod : Op2 K (rI (fun _ j => j ≠ 0) fun i j => .int (i.fmod j)) modD := op2_i (fun i j h => by
  unfold modC at h
  exact of_decide_eq_true h) fun i j _ _ => .int _
theorem op_powG : OpR X (binaryOp .Pow) (rI (fun i j => powC i j = true) fun i j => .int (i ^ j.toNat)) := opI fun i j _ _ _ _ _ hc q => by
  unfold powC at hc
  simp only [Bool.and_eq_true, decide_eq_true_eq] at hc
  exact pow_int hc.1 hc.2 q
theorem o_pow : Op2 K (rI (fun i j => powC i j = true) fun i j => .int (i ^ j.toNat)) powD := op2_i (fun i j h => h) fun i j _ _ => .int _
def negD : D → M D
  | .int i => ret (.int (-i))
  | _ => fail
theorem o_neg : Op1 K (rU fun i => .int (-i)) negD := by
  intro W σ mu H S x v Q hS rx hp
  cases rx <;> first | exact hp.elim | skip
  exact ⟨_, rfl, hp mu H Ext.refl hS _ (.int _)⟩
/-! ### + -/
def addD : D → D → M D
  | .int i, .int j => ret (.int (i + j))
  | .str a, .str b => if a.length + b.length ≤ sizeLine then ret (.str (a ++ b)) else fail
  | .tup a, .tup b => if a.length + b.length ≤ sizeLine then ret (.tup (a ++ b)) else fail
  | .loc a, .loc b => fun S => match S[a]?, S[b]? with
    | some (.lst xs), some (.lst ys) => if xs.length + ys.length ≤ sizeLine then .ok (.loc S.length) (S ++ [.lst (xs ++ ys)]) else .bad
    | _, _ => .bad
  | _, _ => fail
def rAddAll (K : PySem.W.Frag) : R2 := fun x y H Q => rI0 (fun i j => .int (i + j)) x y H Q ∨ (∃ i j, x = .str i ∧ y = .str j ∧ i.length + j.length ≤ sizeLine ∧ Q (.str (i ++ j)) H) ∨ rCatF K x y H Q ∨ rCat x y H Q
theorem op_addAll : OpR X (binaryOp .Add) (rAddAll X.K) := op_add.or (op_add_str.or (op_catF.or op_cat))
theorem o_add : Op2 K (rAddAll K) addD := by
  intro W σ mu H S x y v w Q hS rx ry hp
  cases rx with
  | int i =>
    cases ry <;> first | exact hp.elim | skip
    exact .inl ⟨_, _, rfl, rfl, hp mu H Ext.refl hS _ (.int _)⟩
  | str a =>
    cases ry <;> first | exact hp.elim | skip
    rename_i b
    have hp' : Post K W σ mu H _ ((if a.length + b.length ≤ sizeLine then ret (D.str (a ++ b)) else fail) S) := hp
    by_cases h : a.length + b.length ≤ sizeLine
    · rw [if_pos h] at hp'
      exact .inr (.inl ⟨a, b, rfl, rfl, h, hp' mu H Ext.refl hS _ (.str _)⟩)
    · rw [if_neg h] at hp'
      exact hp'.elim
  | tup hd ha r1 =>
    cases ry <;> first | exact hp.elim | skip
    rename_i a xs ds oa b ys es ob hd2 hb r2
    have hp' : Post K W σ mu H _ ((if ds.length + es.length ≤ sizeLine then ret (D.tup (ds ++ es)) else fail) S) := hp
    by_cases h : ds.length + es.length ≤ sizeLine
    · rw [if_pos h] at hp'
      refine .inr (.inr (.inl ⟨a, b, xs, ys, rfl, rfl, sqT_t ha, sqT_t hb, by rw [r1.length, r2.length]; exact h, ?_⟩))
      refine ⟨fun hn => ?_, fun h1 hn => ?_, fun h1 h2 p o hp0 hd0 => ?_⟩
      · subst hn
        cases r1
        exact hp' mu H Ext.refl hS _ (.tup hd2 hb r2)
      · subst hn
        cases r2
        rw [List.append_nil] at hp'
        exact hp' mu H Ext.refl hS _ (.tup hd ha r1)
      · exact hp' mu _ (ext_tup hp0) (hS.tup hp0) _ (.tup hd0 upd_same ((r1.append r2).mono (ext_tup hp0)))
    · rw [if_neg h] at hp'
      exact hp'.elim
  | loc ha =>
    cases ry <;> first | exact hp.elim | skip
    rename_i a n b m hb
    obtain ⟨o1, e1, q1⟩ := hS.obj ha
    obtain ⟨o2, e2, q2⟩ := hS.obj hb
    have hp' : Post K W σ mu H _ (match S[n]?, S[m]? with
      | some (.lst xs), some (.lst ys) => if xs.length + ys.length ≤ sizeLine then Res.ok (D.loc S.length) (S ++ [.lst (xs ++ ys)]) else .bad
      | _, _ => .bad) := hp
    rw [e1, e2] at hp'
    cases o1 with
    | lst xs =>
      cases o2 with
      | lst ys =>
        obtain ⟨vs, h1, r1⟩ := q1
        obtain ⟨ws, h2, r2⟩ := q2
        simp only at hp'
        by_cases h : xs.length + ys.length ≤ sizeLine
        · rw [if_pos h] at hp'
          refine .inr (.inr (.inr ⟨a, b, vs, ws, rfl, rfl, h1, h2, by rw [r1.length, r2.length]; exact h, fun p hp0 => ?_⟩))
          refine hp' _ _ (ext_new hp0) (hS.new (o := .lst (xs ++ ys)) hp0 ⟨_, upd_same, (r1.append r2).mono (ext_new hp0)⟩) _ (.loc ?_)
          rw [hS.len]
          simp
        · rw [if_neg h] at hp'
          exact hp'.elim
      | dct _ => exact hp'.elim
      | dcT _ => exact hp'.elim
      | tab _ _ => exact hp'.elim
      | ins _ _ => exact hp'.elim
    | dct _ => exact hp'.elim
    | dcT _ => exact hp'.elim
    | tab _ _ => exact hp'.elim
    | ins _ _ => exact hp'.elim
  | _ => exact hp.elim
/-! ### data as a whole: == and repr -/
def snapL (f : D → Option PyData) : List D → Option (List PyData)
  | [] => some []
  | d :: ds => match f d, snapL f ds with
    | some a, some as => some (a :: as)
    | _, _ => none
def snap (S : Sto) : Nat → D → Option PyData
  | 0, _ => none
  | n + 1, d => match d with
    | .non => some .none
    | .bl b => some (.bool b)
    | .int i => some (.int i)
    | .str x => some (.str x)
    | .tup ds => (snapL (snap S n) ds).map .tuple
    | .ktp ds => (snapL (snap S n) ds).map .tuple
    | .rls ds => (snapL (snap S n) ds).map .list
    | .loc k => match S[k]? with
      | some (.lst ds) => (snapL (snap S n) ds).map .list
      | _ => none
    | _ => none
theorem snapL_dp {mu : List Addr} {H : Hp} {f : D → Option PyData} (hf : ∀ d v p, f d = some p → Rep K mu H v d → Dp K H v p) : ∀ {ds : List D} {vs : List V} {ps : List PyData}, snapL f ds = some ps → Reps K mu H vs ds → DpAll K H vs ps
  | _, _, ps, e, .nil => by
    cases e
    exact .nil
  | d :: ds, _, ps, e, .cons r t => by
    unfold snapL at e
    cases e1 : f d with
    | none => rw [e1] at e; cases e
    | some a =>
      cases e2 : snapL f ds with
      | none => rw [e1, e2] at e; cases e
      | some as =>
        rw [e1, e2] at e
        cases e
        exact .cons (hf _ _ _ e1 r) (snapL_dp hf e2 t)
theorem map_some {α β : Type} {o : Option α} {f : α → β} {b : β} (h : o.map f = some b) : ∃ a, o = some a ∧ f a = b := by
  cases o with
  | none => cases h
  | some a => exact ⟨a, rfl, Option.some.inj h⟩
theorem snap_dp {mu : List Addr} {H : Hp} {S : Sto} (hS : HRep K mu H S) : ∀ (n : Nat) (d : D) (v : V) (p : PyData), snap S n d = some p → Rep K mu H v d → Dp K H v p
  | 0, _, _, _, e, _ => by cases e
  | n + 1, d, v, p, e, r => by
    unfold snap at e
    cases r with
    | non => cases e; exact .non
    | bl b => cases e; exact .bl b
    | int b => cases e; exact .int b
    | str b => cases e; exact .str b
    | ty _ => cases e
    | adr _ => cases e
    | exn _ _ _ _ _ _ _ => cases e
    | ttp _ _ => cases e
    | tup _ h r =>
      obtain ⟨ps, e1, e2⟩ := map_some e
      subst e2
      exact .tup (sqT_t h) (snapL_dp (snap_dp hS n) e1 r)
    | ktp h r =>
      obtain ⟨ps, e1, e2⟩ := map_some e
      subst e2
      exact .tup (sqT_k h) (snapL_dp (snap_dp hS n) e1 r)
    | rls h r =>
      obtain ⟨ps, e1, e2⟩ := map_some e
      subst e2
      exact .lst h.sqL (snapL_dp (snap_dp hS n) e1 r)
    | loc h =>
      obtain ⟨o, ho, q⟩ := hS.obj h
      simp only [ho] at e
      cases o with
      | lst ds =>
        obtain ⟨vs, h1, r1⟩ := q
        obtain ⟨ps, e1, e2⟩ := map_some e
        subst e2
        exact .lst (.inl (.inl h1)) (snapL_dp (snap_dp hS n) e1 r1)
      | dct _ => cases e
      | dcT _ => cases e
      | tab _ _ => cases e
      | ins _ _ => cases e
def eqS (neg : Bool) : D → D → M D := fun x y S => match snap S 40 x, snap S 40 y with
  | some a, some b => if (SeqAt.shaped a && SeqAt.shaped b) = true then .ok (.bl (if neg then !(PyData.eqv a b) else PyData.eqv a b)) S else .bad
  | _, _ => .bad
def eqB (neg : Bool) : D → D → M D
  | .str a, .str b => ret (.bl (if neg then !decide (a = b) else decide (a = b)))
  | .int a, .int b => ret (.bl (if neg then !decide (a = b) else decide (a = b)))
  | .bl a, .bl b => ret (.bl (if neg then !decide (a = b) else decide (a = b)))
  | x, y => eqS neg x y
theorem eq_some {W : WX} {σ : L2.St} {mu : List Addr} {H : Hp} {S : Sto} {x y : D} {v w : V} {Q : VK} {neg : Bool} (hS : HRep K mu H S) (rx : Rep K mu H v x) (ry : Rep K mu H w y) (hp : Post K W σ mu H (fun d _ mu' H' => ∀ u, Rep K mu' H' u d → Q u H') (eqS neg x y S)) :
    ∃ d e, Dp K H v d ∧ Dp K H w e ∧ SeqAt.shaped d = true ∧ SeqAt.shaped e = true ∧ Q (.bl (if neg then !(PyData.eqv d e) else PyData.eqv d e)) H := by
  unfold eqS at hp
  cases e1 : snap S 40 x with
  | none => rw [e1] at hp; exact hp.elim
  | some a =>
    cases e2 : snap S 40 y with
    | none => rw [e1, e2] at hp; exact hp.elim
    | some b =>
      simp only [e1, e2] at hp
      by_cases h : (SeqAt.shaped a && SeqAt.shaped b) = true
      · rw [if_pos h] at hp
        rw [Bool.and_eq_true] at h
        exact ⟨a, b, snap_dp hS _ _ _ _ e1 rx, snap_dp hS _ _ _ _ e2 ry, h.1, h.2, hp mu H Ext.refl hS _ (.bl _)⟩
      · rw [if_neg h] at hp
        exact hp.elim
def rEqA (K : PySem.W.Frag) : R2 := fun x y H Q => rEq x y H Q ∨ rEqD K x y H Q
def rNeA (K : PySem.W.Frag) : R2 := fun x y H Q => rNe x y H Q ∨ rNeD K x y H Q
theorem op_eqA (hu : X.A.units + 64 < cLine) : OpR X (compareOp .Eq) (rEqA X.K) := op_eq.or (op_eqD hu)
theorem op_neA (hu : X.A.units + 64 < cLine) : OpR X (compareOp .NotEq) (rNeA X.K) := op_ne.or (op_neD hu)
theorem dec_s (a b : Str) : decide (V.str a = V.str b) = decide (a = b) := by
  by_cases h : a = b
  · rw [h]; simp
  · rw [decide_eq_false h, decide_eq_false fun z => h (V.str.inj z)]
theorem dec_i (a b : Int) : decide (V.int a = V.int b) = decide (a = b) := by
  by_cases h : a = b
  · rw [h]; simp
  · rw [decide_eq_false h, decide_eq_false fun z => h (V.int.inj z)]
theorem dec_b (a b : Bool) : decide (V.bl a = V.bl b) = decide (a = b) := by
  by_cases h : a = b
  · rw [h]; simp
  · rw [decide_eq_false h, decide_eq_false fun z => h (V.bl.inj z)]
theorem o_eq : Op2 K (rEqA K) (eqB false) := fun W σ mu H S x y v w Q hS rx ry hp => by
  cases x <;> cases y <;> first
    | exact .inr (eq_some (neg := false) hS rx ry hp)
    | (cases rx; cases ry; exact .inl ⟨rfl, by rw [dec_s]; exact hp mu H Ext.refl hS _ (.bl _)⟩)
    | (cases rx; cases ry; exact .inl ⟨rfl, by rw [dec_i]; exact hp mu H Ext.refl hS _ (.bl _)⟩)
    | (cases rx; cases ry; exact .inl ⟨rfl, by rw [dec_b]; exact hp mu H Ext.refl hS _ (.bl _)⟩)
theorem o_ne : Op2 K (rNeA K) (eqB true) := fun W σ mu H S x y v w Q hS rx ry hp => by
  cases x <;> cases y <;> first
    | exact .inr (eq_some (neg := true) hS rx ry hp)
    | (cases rx; cases ry; exact .inl ⟨rfl, by rw [dec_s]; exact hp mu H Ext.refl hS _ (.bl _)⟩)
    | (cases rx; cases ry; exact .inl ⟨rfl, by rw [dec_i]; exact hp mu H Ext.refl hS _ (.bl _)⟩)
    | (cases rx; cases ry; exact .inl ⟨rfl, by rw [dec_b]; exact hp mu H Ext.refl hS _ (.bl _)⟩)
/-! ### order -/
def toI : List D → Option (List Int)
  | [] => some []
  | .int i :: ds => (toI ds).map (i :: ·)
  | _ :: _ => none
/-- from the left, the first that differs; then the lengths -/
def lexB (rel : Int → Int → Bool) (z : Nat → Nat → Bool) : List Int → List Int → Bool
  | x :: xs, y :: ys => if x = y then lexB rel z xs ys else rel x y
  | [], ys => z 0 ys.length
  | xs, [] => z xs.length 0
def ordD (rel : Int → Int → Bool) (z : Nat → Nat → Bool) : D → D → M D
  | .int i, .int j => ret (.bl (rel i j))
  | .tup a, .tup b => match toI a, toI b with
    | some xs, some ys => ret (.bl (lexB rel z xs ys))
    | _, _ => fail
  | _, _ => fail
theorem toI_reps {mu : List Addr} {H : Hp} : ∀ {ds : List D} {vs : List V} {ns : List Int}, toI ds = some ns → Reps K mu H vs ds → vs = ns.map V.int := by
  intro ds
  induction ds with
  | nil =>
    intro vs ns e r
    cases r
    cases e
    rfl
  | cons d ds ih =>
    intro vs ns e r
    cases r with
    | cons h t =>
      cases d with
      | int i =>
        cases h
        obtain ⟨ps, e1, e2⟩ := map_some e
        subst e2
        rw [ih e1 t]
        rfl
      | _ => cases e
theorem lexAt_shift (e r : Nat → Bool) (z : Bool) : ∀ (k i : Nat), Ob.lexAt (fun j => e (j + 1)) (fun j => r (j + 1)) z i k = Ob.lexAt e r z (i + 1) k
  | 0, _ => rfl
  | k + 1, i => by
    rw [Ob.lexAt_succ, Ob.lexAt_succ, lexAt_shift e r z k (i + 1)]
theorem lexAt_B (rel : Int → Int → Bool) (z : Nat → Nat → Bool) (hz : ∀ a b, z (a + 1) (b + 1) = z a b) : ∀ ns ms : List Int, Ob.lexAt (fun j => decide (ns.getD j 0 = ms.getD j 0)) (fun j => rel (ns.getD j 0) (ms.getD j 0)) (z ns.length ms.length) 0 (min ns.length ms.length) = lexB rel z ns ms
  | [], ys => by
    rw [List.length_nil, Nat.zero_min]
    rfl
  | x :: xs, [] => by
    rw [List.length_nil, Nat.min_zero]
    rfl
  | x :: xs, y :: ys => by
    rw [List.length_cons, List.length_cons, Nat.succ_min_succ, Ob.lexAt_succ, hz]
    unfold lexB
    rw [← lexAt_B rel z hz xs ys]
    show (if decide (x = y) = true then Ob.lexAt _ _ _ (0 + 1) _ else rel x y) = _
    rw [← lexAt_shift]
    by_cases h : x = y
    · rw [if_pos h, if_pos (decide_eq_true h)]
      rfl
    · rw [if_neg h, if_neg (by rw [decide_eq_false h]; exact Bool.false_ne_true)]
def rOrd (K : PySem.W.Frag) (rel : Int → Int → Bool) (z : Nat → Nat → Bool) : R2 := fun x y H Q => (∃ i j, x = .int i ∧ y = .int j ∧ Q (.bl (rel i j)) H) ∨ ∃ a b ns ms, x = .ref a ∧ y = .ref b ∧ SqT K H a (ns.map V.int) ∧ SqT K H b (ms.map V.int) ∧ Q (.bl (lexB rel z ns ms)) H
theorem op_ord {op : CmpOp} {rel : Int → Int → Bool} {z : Nat → Nat → Bool} (hu : X.A.units < cLine) (hz : ∀ a b, z (a + 1) (b + 1) = z a b)
    (hc : ∀ v u, compareOp op v u = richCompare op v u) (hi : ∀ (A : Around) (s : Shared) (a b : Int) (t u : Tok), Ob.RcOp op A s (.int a t) (.int b u) (rel a b))
    (ht : ∀ {A : Around} {s : Shared} {l b : Addr} {items items2 : Array Value} {e r : Nat → Bool}, s.heap.IsTuple l items → s.heap.IsTuple b items2 → A.units < cLine → (∀ j (h1 : j < items.size) (h2 : j < items2.size), SeqAt.EqAt A.in1 s items[j] items2[j] (e j)) →
      (∀ j (h1 : j < items.size) (h2 : j < items2.size), e j = false → Ob.RcOp op A.in1 s items[j] items2[j] (r j)) → Ob.RcOp op A s (.ref l) (.ref b) (Ob.lexAt e r (z items.size items2.size) 0 (min items.size items2.size))) :
    OpR X (compareOp op) (rOrd X.K rel z) := by
  intro pins s σ H x y v u Q I rx ry h
  rw [hc]
  rcases h with ⟨i, j, rfl, rfl, q⟩ | ⟨a, b, ns, ms, rfl, rfl, ha, hb, q⟩
  · obtain ⟨t, rfl⟩ := rx
    obtain ⟨t', rfl⟩ := ry
    exact hi _ _ i j t t' _ _ _ _ ⟨.bl _, H, I, rfl, q⟩
  · cases rx
    cases ry
    obtain ⟨its, r1, p1, _⟩ := I.tuple ha
    obtain ⟨its2, r2, p2, _⟩ := I.tuple hb
    have i1 : IntsAre its ns := Vals.ints r1
    have i2 : IntsAre its2 ms := Vals.ints r2
    have at1 : ∀ j (h1 : j < its.toArray.size), ∃ t, its.toArray[j] = .int (ns.getD j 0) t := fun j h1 => IntsAre.int_at i1 _ _ (by simp at h1; simp [h1])
    have at2 : ∀ j (h1 : j < its2.toArray.size), ∃ t, its2.toArray[j] = .int (ms.getD j 0) t := fun j h1 => IntsAre.int_at i2 _ _ (by simp at h1; simp [h1])
    have R := ht (A := X.A) (s := s) (e := fun j => decide (ns.getD j 0 = ms.getD j 0)) (r := fun j => rel (ns.getD j 0) (ms.getD j 0)) p1 p2 hu (fun j h1 h2 => by
      obtain ⟨t, et⟩ := at1 j h1
      obtain ⟨t', et'⟩ := at2 j h2
      rw [et, et', show decide (ns.getD j 0 = ms.getD j 0) = (ns.getD j 0 == ms.getD j 0) from (Bool.beq_eq_decide_eq _ _).symm]
      exact SeqAt.EqAt.int_int _ _ _ _) (fun j h1 h2 _ => by
      obtain ⟨t, et⟩ := at1 j h1
      obtain ⟨t', et'⟩ := at2 j h2
      rw [et, et']
      exact hi _ _ _ _ _ _)
    rw [show its.toArray.size = ns.length by rw [List.size_toArray]; exact i1.length, show its2.toArray.size = ms.length by rw [List.size_toArray]; exact i2.length, lexAt_B rel z hz] at R
    exact R X.prog X.w X.xe (EP X pins σ Q) ⟨.bl _, H, I, rfl, q⟩
theorem o_ord {rel : Int → Int → Bool} {z : Nat → Nat → Bool} : Op2 K (rOrd K rel z) (ordD rel z) := by
  intro W σ mu H S x y v w Q hS rx ry hp
  cases rx with
  | int i =>
    cases ry <;> first | exact hp.elim | skip
    exact .inl ⟨_, _, rfl, rfl, hp mu H Ext.refl hS _ (.bl _)⟩
  | tup hd ha r1 =>
    cases ry <;> first | exact hp.elim | skip
    rename_i a xs ds oa b ys es ob hd2 hb r2
    have hp' : Post K W σ mu H _ ((match toI ds, toI es with
      | some xs, some ys => ret (D.bl (lexB rel z xs ys))
      | _, _ => fail) S) := hp
    cases e1 : toI ds with
    | none => rw [e1] at hp'; exact hp'.elim
    | some ns =>
      cases e2 : toI es with
      | none => rw [e1, e2] at hp'; exact hp'.elim
      | some ms =>
        simp only [e1, e2] at hp'
        exact .inr ⟨a, b, ns, ms, rfl, rfl, by rw [← toI_reps e1 r1]; exact sqT_t ha, by rw [← toI_reps e2 r2]; exact sqT_t hb, hp' mu H Ext.refl hS _ (.bl _)⟩
  | _ => exact hp.elim
def ltI (a b : Int) : Bool := decide (a < b)
def leI (a b : Int) : Bool := decide (a ≤ b)
def gtI (a b : Int) : Bool := decide (b < a)
def geI (a b : Int) : Bool := decide (b ≤ a)
def ltD : D → D → M D := ordD ltI fun a b => decide (a < b)
def leD : D → D → M D := ordD leI fun a b => decide (a ≤ b)
def gtD : D → D → M D := ordD gtI fun a b => decide (a > b)
def geD : D → D → M D := ordD geI fun a b => decide (a ≥ b)
theorem op_ltA (hu : X.A.units < cLine) : OpR X (compareOp .Lt) (rOrd X.K ltI fun a b => decide (a < b)) := op_ord hu (fun a b => by simp) (fun _ _ => rfl) (fun _ _ _ _ _ _ => Ob.RcOp.lt_int _ _ _ _) fun h1 h2 h3 h4 h5 => Ob.RcOp.tuples_lt h1 h2 h3 h4 h5
theorem op_leA (hu : X.A.units < cLine) : OpR X (compareOp .LtE) (rOrd X.K leI fun a b => decide (a ≤ b)) := op_ord hu (fun a b => by simp) (fun _ _ => rfl) (fun _ _ _ _ _ _ => Ob.RcOp.le_int _ _ _ _) fun h1 h2 h3 h4 h5 => Ob.RcOp.tuples_le h1 h2 h3 h4 h5
theorem op_gtA (hu : X.A.units < cLine) : OpR X (compareOp .Gt) (rOrd X.K gtI fun a b => decide (a > b)) := op_ord hu (fun a b => by simp) (fun _ _ => rfl) (fun _ _ _ _ _ _ => Ob.RcOp.gt_int _ _ _ _) fun h1 h2 h3 h4 h5 => Ob.RcOp.tuples_gt h1 h2 h3 h4 h5
theorem op_geA (hu : X.A.units < cLine) : OpR X (compareOp .GtE) (rOrd X.K geI fun a b => decide (a ≥ b)) := op_ord hu (fun a b => by simp) (fun _ _ => rfl) (fun _ _ _ _ _ _ => Ob.RcOp.ge_int _ _ _ _) fun h1 h2 h3 h4 h5 => Ob.RcOp.tuples_ge h1 h2 h3 h4 h5
/-! ### is None -/
def isN (neg : Bool) : D → D → M D := fun x y => match y with
  | .non => ret (.bl (match x with
    | .non => !neg
    | _ => neg))
  | _ => fail
theorem o_isN : Op2 K (fun x y H Q => y = .non ∧ Q (.bl (decide (x = .non))) H) (isN false) := by
  intro W σ mu H S x y v w Q hS rx ry hp
  cases ry <;> first | exact hp.elim | skip
  refine ⟨rfl, ?_⟩
  cases rx <;> exact hp mu H Ext.refl hS _ (.bl _)
theorem o_notN : Op2 K (fun x y H Q => y = .non ∧ Q (.bl (!decide (x = .non))) H) (isN true) := by
  intro W σ mu H S x y v w Q hS rx ry hp
  cases ry <;> first | exact hp.elim | skip
  refine ⟨rfl, ?_⟩
  cases rx <;> exact hp mu H Ext.refl hS _ (.bl _)
end
end Fa
namespace Fa
open PySem PySem.Spec PyProof.Rows L2
section
variable {X : Cx} {K : PySem.W.Frag}
/-! ### places -/
def ixD : D → D → M D
  | .tup ds, .int i => match atI ds i with
    | some d => ret d
    | none => fail
  | .ktp ds, .int i => match atI ds i with
    | some d => ret d
    | none => fail
  | .rls ds, .int i => match atI ds i with
    | some d => ret d
    | none => fail
  | .loc n, .int i => fun S => match S[n]? with
    | some (.lst ds) => match atI ds i with
      | some d => .ok d S
      | none => .bad
    | _ => .bad
  | .str z, .int i => match atI z.cps.toList i with
    | some c => if z.length ≤ sizeLine then ret (.str ⟨#[c]⟩) else fail
    | none => fail
  | _, _ => fail
theorem Reps.atI {mu : List Addr} {H : Hp} {vs : List V} {ds : List D} {i : Int} {d : D} (h : Reps K mu H vs ds) (e : L2.atI ds i = some d) : ∃ v, L2.atI vs i = some v ∧ Rep K mu H v d := by
  unfold L2.atI at e ⊢
  rw [h.length]
  cases e1 : ixN ds.length i with
  | none => rw [e1] at e; cases e
  | some j => rw [e1] at e; exact h.get e
theorem o_ix : Op2 K (rIx K) ixD := by
  intro W σ mu H S x y v w Q hS rx ry hp
  cases rx with
  | tup hd hq hr =>
    cases ry <;> first | exact hp.elim | skip
    rename_i a vs ds o i
    have hp' : Post K W σ mu H _ ((match atI ds i with
      | some d => ret d
      | none => fail) S) := hp
    cases e : atI ds i with
    | none => rw [e] at hp'; exact hp'.elim
    | some d =>
      rw [e] at hp'
      obtain ⟨u, e2, ru⟩ := hr.atI e
      exact .inr (.inl ⟨a, vs, i, u, rfl, rfl, sqT_t hq, e2, hp' mu H Ext.refl hS u ru⟩)
  | ktp hq hr =>
    cases ry <;> first | exact hp.elim | skip
    rename_i a vs ds i
    have hp' : Post K W σ mu H _ ((match atI ds i with
      | some d => ret d
      | none => fail) S) := hp
    cases e : atI ds i with
    | none => rw [e] at hp'; exact hp'.elim
    | some d =>
      rw [e] at hp'
      obtain ⟨u, e2, ru⟩ := hr.atI e
      exact .inr (.inl ⟨a, vs, i, u, rfl, rfl, sqT_k hq, e2, hp' mu H Ext.refl hS u ru⟩)
  | rls hq hr =>
    cases ry <;> first | exact hp.elim | skip
    rename_i a vs ds i
    have hp' : Post K W σ mu H _ ((match atI ds i with
      | some d => ret d
      | none => fail) S) := hp
    cases e : atI ds i with
    | none => rw [e] at hp'; exact hp'.elim
    | some d =>
      rw [e] at hp'
      obtain ⟨u, e2, ru⟩ := hr.atI e
      exact .inl ⟨a, vs, i, u, rfl, rfl, hq.sqL, e2, hp' mu H Ext.refl hS u ru⟩
  | loc hn =>
    cases ry <;> first | exact hp.elim | skip
    rename_i a n i
    obtain ⟨o, ho, q⟩ := hS.obj hn
    have hp' : Post K W σ mu H _ (match S[n]? with
      | some (.lst ds) => match atI ds i with
        | some d => Res.ok d S
        | none => .bad
      | _ => .bad) := hp
    rw [ho] at hp'
    cases o with
    | lst ds =>
      obtain ⟨vs, h1, hr⟩ := q
      simp only at hp'
      cases e : atI ds i with
      | none => rw [e] at hp'; exact hp'.elim
      | some d =>
        rw [e] at hp'
        obtain ⟨u, e2, ru⟩ := hr.atI e
        exact .inl ⟨a, vs, i, u, rfl, rfl, .inl (.inl h1), e2, hp' mu H Ext.refl hS u ru⟩
    | dct _ => exact hp'.elim
    | dcT _ => exact hp'.elim
    | tab _ _ => exact hp'.elim
    | ins _ _ => exact hp'.elim
  | str z =>
    cases ry <;> first | exact hp.elim | skip
    rename_i i
    have hp' : Post K W σ mu H _ ((match atI z.cps.toList i with
      | some c => if z.length ≤ sizeLine then ret (D.str ⟨#[c]⟩) else fail
      | none => fail) S) := hp
    cases e : atI z.cps.toList i with
    | none => rw [e] at hp'; exact hp'.elim
    | some c =>
      rw [e] at hp'
      simp only at hp'
      by_cases h : z.length ≤ sizeLine
      · rw [if_pos h] at hp'
        exact .inr (.inr ⟨z, i, c, rfl, rfl, h, e, hp' mu H Ext.refl hS _ (.str _)⟩)
      · rw [if_neg h] at hp'
        exact hp'.elim
  | _ => exact hp.elim
/-! o[i] = v -/
def setD : D → D → D → M Unit
  | .loc n, .int i, d => fun S => match S[n]? with
    | some (.lst ds) => match ixN ds.length i with
      | some j => .ok () (S.set n (.lst (ds.set j d)))
      | none => .bad
    | _ => .bad
  | _, _, _ => fail
def gSubD (mo mi : Env → M D) : Tg := fun d r => bnd (mo r) fun o => bnd (mi r) fun i => bnd (setD o i d) fun _ => ret r
theorem sg_sub {W : WX} {o i : Expr} {mo mi : Env → M D} {pos : Pos} (ho : SE X W o mo) (hi : SE X W i mi)
    (ha : ∀ v, assign (.Subscript o i pos) X.env v = (do
      let ov ← holding [v] (eval o X.env)
      let iv ← holding [v, ov] (eval i X.env)
      standAt pos
      holding [v, ov, iv] (setItem ov iv v)
      release [v, ov, iv] []) := by intro _; rfl) : SG X W (.Subscript o i pos) [] (gSubD mo mi) := ⟨fun p s σ H v u Q I rv q => (pg_sub ho hi set_list ha).run p s σ H v u Q I rv (by
  obtain ⟨r, mu, S, d, hS, he, hr, hp⟩ := q
  refine ⟨r, mu, S, hS, he, hp.bnd.imp fun x S1 mu1 H1 ex hS1 q1 ov rov => ?_⟩
  refine ⟨r, mu1, S1, hS1, he.mono ex, q1.bnd.imp fun y S2 mu2 H2 ex2 hS2 q2 iv riv => ?_⟩
  have rov2 := rov.mono ex2
  cases rov2 <;> first | exact q2.elim | skip
  cases riv <;> first | exact q2.elim | skip
  rename_i a n hn k
  obtain ⟨ob, hob, qb⟩ := hS2.obj hn
  have q3 : Post X.K W σ mu2 H2 _ (bnd (fun S => match S[n]? with
    | some (.lst ds) => match ixN ds.length k with
      | some j => Res.ok () (S.set n (.lst (ds.set j d)))
      | none => .bad
    | _ => .bad) (fun _ => ret r) S2) := q2
  unfold bnd at q3
  simp only [hob] at q3
  cases ob with
  | lst ds =>
    obtain ⟨vs, h1, hrs⟩ := qb
    simp only at q3
    cases e : ixN ds.length k with
    | none => rw [e] at q3; exact q3.elim
    | some j =>
      rw [e] at q3
      have ext : Ext mu2 H2 mu2 (upd H2 a (.lst (vs.set j v))) := ext_put hn h1 trivial
      refine ⟨a, vs, k, j, rfl, rfl, h1, by rw [hrs.length]; exact e, ?_⟩
      exact q3 mu2 _ ext (hS2.put (u' := .lst vs) hn ext ⟨_, upd_same, (hrs.set ((hr.mono ex).mono ex2) j).mono ext⟩) σ ((((he.mono ex).mono ex2).mono ext)) rfl
  | dct _ => exact q3.elim
  | dcT _ => exact q3.elim
  | tab _ _ => exact q3.elim
  | ins _ _ => exact q3.elim)⟩
/-! ### built-in functions -/
def absD : List D → M D
  | [.int i] => ret (.int (if i < 0 then -i else i))
  | _ => fail
def maxD : List D → M D
  | [.int i, .int j] => ret (.int (if j > i then j else i))
  | _ => fail
def minD : List D → M D
  | [.int i, .int j] => ret (.int (if j < i then j else i))
  | _ => fail
def intD : List D → M D
  | [.int i] => ret (.int i)
  | [.bl k] => ret (.int (if k then 1 else 0))
  | _ => fail
def lenOf (S : Sto) : D → Option Nat
  | .str z => if z.length ≤ sizeLine then some z.length else none
  | .tup ds => some ds.length
  | .rls ds => some ds.length
  | .loc n => match S[n]? with
    | some (.lst ds) => some ds.length
    | some (.dct ds) => some ds.length
    | some (.dcT ds) => some ds.length
    | _ => none
  | _ => none
def lenD : List D → M D
  | [x] => fun S => match lenOf S x with
    | some n => .ok (.int n) S
    | none => .bad
  | _ => fail
theorem one_of {mu : List Addr} {H : Hp} {vs : List V} {x : D} (h : Reps K mu H vs [x]) : ∃ v, vs = [v] ∧ Rep K mu H v x := by
  cases h with
  | cons r t => cases t; exact ⟨_, rfl, r⟩
theorem two_of {mu : List Addr} {H : Hp} {vs : List V} {x y : D} (h : Reps K mu H vs [x, y]) : ∃ v w, vs = [v, w] ∧ Rep K mu H v x ∧ Rep K mu H w y := by
  cases h with
  | cons r t =>
    obtain ⟨w, rfl, rw⟩ := one_of t
    exact ⟨_, w, rfl, r, rw⟩
theorem o_abs : OpN K (fun xs H Q => ∃ i, xs = [.int i] ∧ Q (.int (if i < 0 then -i else i)) H) absD := by
  intro W σ mu H S xs vs Q hS hr hp
  unfold absD at hp
  split at hp
  · obtain ⟨v, rfl, rv⟩ := one_of hr
    cases rv
    exact ⟨_, rfl, hp mu H Ext.refl hS _ (.int _)⟩
  · exact hp.elim
theorem o_max : OpN K (fun xs H Q => ∃ i j, xs = [.int i, .int j] ∧ Q (.int (if j > i then j else i)) H) maxD := by
  intro W σ mu H S xs vs Q hS hr hp
  unfold maxD at hp
  split at hp
  · obtain ⟨v, w, rfl, rv, rw⟩ := two_of hr
    cases rv
    cases rw
    exact ⟨_, _, rfl, hp mu H Ext.refl hS _ (.int _)⟩
  · exact hp.elim
theorem o_min : OpN K (fun xs H Q => ∃ i j, xs = [.int i, .int j] ∧ Q (.int (if j < i then j else i)) H) minD := by
  intro W σ mu H S xs vs Q hS hr hp
  unfold minD at hp
  split at hp
  · obtain ⟨v, w, rfl, rv, rw⟩ := two_of hr
    cases rv
    cases rw
    exact ⟨_, _, rfl, hp mu H Ext.refl hS _ (.int _)⟩
  · exact hp.elim
theorem o_int : OpN K (fun xs H Q => (∃ i, xs = [.int i] ∧ Q (.int i) H) ∨ ∃ k, xs = [.bl k] ∧ Q (.int (if k then 1 else 0)) H) intD := by
  intro W σ mu H S xs vs Q hS hr hp
  unfold intD at hp
  split at hp
  · obtain ⟨v, rfl, rv⟩ := one_of hr
    cases rv
    exact .inl ⟨_, rfl, hp mu H Ext.refl hS _ (.int _)⟩
  · obtain ⟨v, rfl, rv⟩ := one_of hr
    cases rv
    exact .inr ⟨_, rfl, hp mu H Ext.refl hS _ (.int _)⟩
  · exact hp.elim
def rLenAll (K : PySem.W.Frag) : List V → Hp → VK → Prop := fun xs H Q => (∃ p ys, xs = [.ref p] ∧ (SqL K H p ys ∨ SqT K H p ys) ∧ Q (.int ys.length) H) ∨ (∃ z, xs = [.str z] ∧ z.length ≤ sizeLine ∧ Q (.int z.length) H) ∨ (∃ p kvs, xs = [.ref p] ∧ H p = some (.dK kvs) ∧ Q (.int kvs.length) H) ∨ rLenT xs H Q
theorem call_lenK : CallR X (.builtin "len") (fun xs H Q => ∃ p kvs, xs = [.ref p] ∧ H p = some (.dK kvs) ∧ Q (.int kvs.length) H) := by
  intro pins s σ H xs us Q I r h
  obtain ⟨p, kvs, rfl, hp, q⟩ := h
  obtain ⟨u, rfl, rx⟩ := vals1 r
  cases rx
  exact d_len I (.inl hp) fun t s' I' => ⟨.int kvs.length, H, I', ⟨t, rfl⟩, q⟩
theorem call_lenAll : CallR X (.builtin "len") (rLenAll X.K) := call_len_seq.or (call_len_str.or (call_lenK.or call_len_dT))
theorem o_len : OpN K (rLenAll K) lenD := by
  intro W σ mu H S xs vs Q hS hr hp
  unfold lenD at hp
  split at hp
  · rename_i x
    obtain ⟨v, rfl, rv⟩ := one_of hr
    cases rv with
    | str z =>
      have hp' : Post K W σ mu H _ (match (if z.length ≤ sizeLine then some z.length else none) with
        | some n => Res.ok (D.int n) S
        | none => .bad) := hp
      by_cases h : z.length ≤ sizeLine
      · rw [if_pos h] at hp'
        exact .inr (.inl ⟨z, rfl, h, hp' mu H Ext.refl hS _ (.int _)⟩)
      · rw [if_neg h] at hp'
        exact hp'.elim
    | tup _ hq hrs =>
      refine .inl ⟨_, _, rfl, .inr (sqT_t hq), ?_⟩
      rw [hrs.length]
      exact hp mu H Ext.refl hS _ (.int _)
    | rls hq hrs =>
      refine .inl ⟨_, _, rfl, .inl hq.sqL, ?_⟩
      rw [hrs.length]
      exact hp mu H Ext.refl hS _ (.int _)
    | loc hn =>
      obtain ⟨o, ho, q⟩ := hS.obj hn
      unfold lenOf at hp
      simp only [ho] at hp
      cases o with
      | lst ds =>
        obtain ⟨us, h1, hrs⟩ := q
        refine .inl ⟨_, _, rfl, .inl (.inl (.inl h1)), ?_⟩
        rw [hrs.length]
        exact hp mu H Ext.refl hS _ (.int _)
      | dct ds =>
        obtain ⟨us, h1, hrs⟩ := q
        refine .inr (.inr (.inl ⟨_, _, rfl, h1, ?_⟩))
        rw [Paired.length hrs]
        exact hp mu H Ext.refl hS _ (.int _)
      | dcT ds =>
        obtain ⟨us, h1, hrs⟩ := q
        refine .inr (.inr (.inr ⟨_, _, rfl, h1, ?_⟩))
        rw [Paired.length hrs]
        exact hp mu H Ext.refl hS _ (.int _)
      | tab _ _ => exact hp.elim
      | ins _ _ => exact hp.elim
    | _ => exact hp.elim
  · exact hp.elim
def toB : List D → Option (List Bool)
  | [] => some []
  | .bl i :: ds => (toB ds).map (i :: ·)
  | _ :: _ => none
def allD : List D → M D
  | [.loc n] => fun S => match S[n]? with
    | some (.lst ds) => match toB ds with
      | some bs => .ok (.bl (bs.all id)) S
      | none => .bad
    | _ => .bad
  | _ => fail
def anyD : List D → M D
  | [.loc n] => fun S => match S[n]? with
    | some (.lst ds) => match toB ds with
      | some bs => .ok (.bl (bs.any id)) S
      | none => .bad
    | _ => .bad
  | _ => fail
theorem toB_reps {mu : List Addr} {H : Hp} : ∀ {ds : List D} {vs : List V} {ns : List Bool}, toB ds = some ns → Reps K mu H vs ds → vs = ns.map V.bl := by
  intro ds
  induction ds with
  | nil =>
    intro vs ns e r
    cases r
    cases e
    rfl
  | cons d ds ih =>
    intro vs ns e r
    cases r with
    | cons h t =>
      cases d with
      | bl i =>
        cases h
        obtain ⟨ps, e1, e2⟩ := map_some e
        subst e2
        rw [ih e1 t]
        rfl
      | _ => cases e
theorem o_all : OpN K (rAll K) allD := by
  intro W σ mu H S xs vs Q hS hr hp
  unfold allD at hp
  split at hp
  · obtain ⟨v, rfl, rv⟩ := one_of hr
    cases rv with
    | loc hn =>
      obtain ⟨o, ho, q⟩ := hS.obj hn
      simp only [ho] at hp
      cases o with
      | lst ds =>
        obtain ⟨us, h1, hrs⟩ := q
        simp only at hp
        cases e : toB ds with
        | none => rw [e] at hp; exact hp.elim
        | some bs =>
          rw [e] at hp
          exact ⟨_, bs, rfl, .inl (.inl (by rw [← toB_reps e hrs]; exact h1)), hp mu H Ext.refl hS _ (.bl _)⟩
      | dct _ => exact hp.elim
      | dcT _ => exact hp.elim
      | tab _ _ => exact hp.elim
      | ins _ _ => exact hp.elim
  · exact hp.elim
theorem o_any : OpN K (rAny K) anyD := by
  intro W σ mu H S xs vs Q hS hr hp
  unfold anyD at hp
  split at hp
  · obtain ⟨v, rfl, rv⟩ := one_of hr
    cases rv with
    | loc hn =>
      obtain ⟨o, ho, q⟩ := hS.obj hn
      simp only [ho] at hp
      cases o with
      | lst ds =>
        obtain ⟨us, h1, hrs⟩ := q
        simp only at hp
        cases e : toB ds with
        | none => rw [e] at hp; exact hp.elim
        | some bs =>
          rw [e] at hp
          exact ⟨_, bs, rfl, .inl (.inl (by rw [← toB_reps e hrs]; exact h1)), hp mu H Ext.refl hS _ (.bl _)⟩
      | dct _ => exact hp.elim
      | dcT _ => exact hp.elim
      | tab _ _ => exact hp.elim
      | ins _ _ => exact hp.elim
  · exact hp.elim
/-! repr -/
def shows (d : PyData) : Bool := d.showable && !d.hasDict && decide (d.depth ≤ 60) && decide (d.shown.length ≤ sizeLine)
def reprD : List D → M D
  | [x] => fun S => match snap S 40 x with
    | some d => if shows d = true then .ok (.str d.shown) S else .bad
    | none => .bad
  | _ => fail
def rRepr (K : PySem.W.Frag) : List V → Hp → VK → Prop := fun xs H Q => ∃ v d, xs = [v] ∧ Dp K H v d ∧ shows d = true ∧ Q (.str d.shown) H
theorem call_repr {k : Nat} (hr : Room k X.A) (hg : X.A.guards = some []) : CallR X (.builtin "repr") (rRepr X.K) := by
  intro pins s σ H xs us Q I r h
  obtain ⟨v, d, rfl, hd, hs, q⟩ := h
  obtain ⟨u, rfl, ru⟩ := vals1 r
  unfold shows at hs
  simp only [Bool.and_eq_true, decide_eq_true_eq, Bool.not_eq_true'] at hs
  obtain ⟨⟨⟨h1, h2⟩, h3⟩, h4⟩ := hs
  obtain ⟨as, rd⟩ := Dp.reads I d v u hd ru
  have hu : X.A.units + (d.depth + 1) < cLine := by
    have := hr.units
    omega
  have big : ∀ a, u = .ref a → wpAny (model X.prog X.w) X.A (call (.builtin "repr") [u]) (EP X pins σ Q) X.xe s := fun a e => by
    subst e
    refine repr_of_reads' rd h1 (fun z => by rw [h2] at z; cases z) hg hu (fun _ _ e => e) (fun h' tk t hk => ?_) h4
    exact ⟨.str d.shown, H, I.kept hk, ⟨_, rfl⟩, q⟩
  cases rd with
  | none => exact PySem.P.repr_of_none ⟨.str _, H, I.tok _, ⟨_, rfl⟩, by simpa [PyData.shown] using q⟩
  | bool b => exact PySem.P.repr_of_bool ⟨.str _, H, I.tok _, ⟨_, rfl⟩, by simpa [PyData.shown] using q⟩
  | int i t => exact PySem.P.repr_of_int (by simpa [PyData.showable] using h1) ⟨.str _, H, I.tok _, ⟨_, rfl⟩, by simpa [PyData.shown] using q⟩
  | str x t => exact PySem.P.repr_of_str (by exact ⟨.str _, H, I.tok _, ⟨_, rfl⟩, by simpa [PyData.shown] using q⟩) (by simpa [PyData.shown] using h4)
  | list _ _ _ _ => exact big _ rfl
  | tuple _ _ _ _ => exact big _ rfl
  | dict _ _ _ _ => exact big _ rfl
theorem o_repr : OpN K (rRepr K) reprD := by
  intro W σ mu H S xs vs Q hS hr hp
  unfold reprD at hp
  split at hp
  · obtain ⟨v, rfl, rv⟩ := one_of hr
    rename_i x
    cases e : snap S 40 x with
    | none => rw [e] at hp; exact hp.elim
    | some d =>
      simp only [e] at hp
      by_cases h : shows d = true
      · rw [if_pos h] at hp
        exact ⟨v, d, rfl, snap_dp hS _ _ _ _ e rv, h, hp mu H Ext.refl hS _ (.str _)⟩
      · rw [if_neg h] at hp
        exact hp.elim
  · exact hp.elim
/-! isinstance of built-in classes -/
inductive Ty where
  | non | bool | int | str | tuple | list | dict
  deriving DecidableEq
def Ty.name : Ty → String
  | .non => "NoneType" | .bool => "bool" | .int => "int" | .str => "str" | .tuple => "tuple" | .list => "list" | .dict => "dict"
def tyD (S : Sto) : D → Option Ty
  | .non => some .non
  | .bl _ => some .bool
  | .int _ => some .int
  | .str _ => some .str
  | .tup _ => some .tuple
  | .ktp _ => some .tuple
  | .rls _ => some .list
  | .loc n => match S[n]? with
    | some (.lst _) => some .list
    | some (.dct _) => some .dict
    | _ => none
  | _ => none
def isa (t : Ty) (n : String) : Option Bool :=
  if n = "int" then some (t == .int || t == .bool) else if n = "bool" then some (t == .bool) else if n = "str" then some (t == .str) else if n = "tuple" then some (t == .tuple)
  else if n = "list" then some (t == .list) else if n = "dict" then some (t == .dict) else none
theorem isa_kit {t : Ty} {n : String} {b : Bool} (h : isa t n = some b) : kitB t.name n = some b := by
  unfold isa at h
  split at h
  · subst n; cases h; cases t <;> decide +kernel
  split at h
  · subst n; cases h; cases t <;> decide +kernel
  split at h
  · subst n; cases h; cases t <;> decide +kernel
  split at h
  · subst n; cases h; cases t <;> decide +kernel
  split at h
  · subst n; cases h; cases t <;> decide +kernel
  split at h
  · subst n; cases h; cases t <;> decide +kernel
  · cases h
def isiD : List D → M D
  | [x, .ty n] => fun S => match tyD S x with
    | some t => match isa t n with
      | some b => .ok (.bl b) S
      | none => .bad
    | none => .bad
  | _ => fail
theorem tyD_ty {mu : List Addr} {H : Hp} {S : Sto} {v : V} {x : D} {t : Ty} (hS : HRep K mu H S) (rv : Rep K mu H v x) (h : tyD S x = some t) : TyX K H v (.type t.name) := by
  cases rv with
  | non => cases h; exact .base .non
  | bl b => cases h; exact .base (.bl b)
  | int b => cases h; exact .base (.int b)
  | str b => cases h; exact .base (.str b)
  | ty _ => cases h
  | adr _ => cases h
  | tup _ hq hr =>
    cases h
    exact .fTuple hq
  | ktp hq hr =>
    cases h
    obtain ⟨o, its, n, h1, h2, _⟩ := hq
    exact .kTuple h1 h2
  | rls hq hr =>
    cases h
    rcases hq with ⟨o, h⟩ | ⟨o, its, n, h1, h2, _⟩
    · exact .base (.frz h)
    · exact .kList h1 h2
  | loc hn =>
    obtain ⟨o, ho, q⟩ := hS.obj hn
    unfold tyD at h
    simp only [ho] at h
    cases o with
    | lst ds =>
      cases h
      obtain ⟨us, h1, _⟩ := q
      exact .base (.lst h1)
    | dct ds =>
      cases h
      obtain ⟨us, h1, _⟩ := q
      exact .base (.dK h1)
    | dcT _ => cases h
    | tab _ _ => cases h
    | ins _ _ => cases h
  | exn _ _ _ _ _ _ _ => cases h
  | ttp _ _ => cases h
theorem o_isi : OpN K (rIsi K) isiD := by
  intro W σ mu H S xs vs Q hS hr hp
  unfold isiD at hp
  split at hp
  · rename_i x n
    obtain ⟨v, w, rfl, rv, rw⟩ := two_of hr
    cases rw
    cases e : tyD S x with
    | none => rw [e] at hp; exact hp.elim
    | some t =>
      simp only [e] at hp
      cases e2 : isa t n with
      | none => rw [e2] at hp; exact hp.elim
      | some b =>
        rw [e2] at hp
        exact ⟨v, .ty n, _, _, b, rfl, .ty n, tyD_ty hS rv e, kit_ty (isa_kit e2), hp mu H Ext.refl hS _ (.bl _)⟩
  · exact hp.elim
/-! ### methods of lists -/
def lstAt (S : Sto) : D → Option (Nat × List D)
  | .loc n => match S[n]? with
    | some (.lst ds) => some (n, ds)
    | _ => none
  | _ => none
/-- o.m(..) of a list -/
def mLM (f : D → List D → M D) (o : Env → M D) (ms : Env → M (List D)) : Env → M D := fun r => bnd (o r) fun x S => if (lstAt S x).isSome = true then bnd (ms r) (f x) S else .bad
def OpM (K : PySem.W.Frag) (r : V → List V → Hp → VK → Prop) (f : D → List D → M D) : Prop := ∀ (W : WX) (σ : L2.St) mu H S x xs v vs (Q : VK), HRep K mu H S → Rep K mu H v x → Reps K mu H vs xs → Post K W σ mu H (fun d _ mu' H' => ∀ u, Rep K mu' H' u d → Q u H') (f x xs S) → r v vs H Q
theorem lstAt_of {mu : List Addr} {H : Hp} {S : Sto} {v : V} {x : D} {n : Nat} {ds : List D} (hS : HRep K mu H S) (rv : Rep K mu H v x) (h : lstAt S x = some (n, ds)) : ∃ a vs, v = .ref a ∧ x = .loc n ∧ mu[n]? = some a ∧ S[n]? = some (.lst ds) ∧ H a = some (.lst vs) ∧ Reps K mu H vs ds := by
  cases rv with
  | loc hn =>
    obtain ⟨o, ho, q⟩ := hS.obj hn
    unfold lstAt at h
    simp only [ho] at h
    cases o with
    | lst es =>
      cases h
      obtain ⟨us, h1, h2⟩ := q
      exact ⟨_, us, rfl, rfl, hn, ho, h1, h2⟩
    | dct _ => cases h
    | dcT _ => cases h
    | tab _ _ => cases h
    | ins _ _ => cases h
  | _ => cases h
theorem se_lm {W : WX} {name : Str} {r : V → List V → Hp → VK → Prop} {f : D → List D → M D} {o e : Expr} {es : List Expr} {mo : Env → M D} {ms : Env → M (List D)} {pos apos : Pos} (hf : OpM X.K r f) (ho : SE X W o mo) (ha : SA X W (e :: es) ms)
    (base : ∀ {to : TE} {t : TA}, PE X o to → PA X (e :: es) t → PE X (.Call (.Attribute o name apos) (e :: es) [] pos) (tBM X.K "list" r to t)) : SE X W (.Call (.Attribute o name apos) (e :: es) [] pos) (mLM f mo ms) := peI (base ho ha) fun σ H Q q => by
  obtain ⟨r, mu, S, hS, he, hp⟩ := q
  refine ⟨r, mu, S, hS, he, hp.bnd.imp fun x S1 mu1 H1 ex hS1 q1 v rv => ?_⟩
  by_cases h : (lstAt S1 x).isSome = true
  · rw [if_pos h] at q1
    obtain ⟨⟨n, ds⟩, hl⟩ := Option.isSome_iff_exists.mp h
    obtain ⟨a, vs, rfl, rfl, hn, _, h1, _⟩ := lstAt_of hS1 rv hl
    refine ⟨.inl ⟨rfl, vs, .inl (.inl h1)⟩, r, mu1, S1, hS1, he.mono ex, q1.bnd.imp fun y S2 mu2 H2 ex2 hS2 q2 w rw => ?_⟩
    exact hf W σ mu2 H2 S2 _ _ _ _ Q hS2 (rv.mono ex2) rw q2
  · rw [if_neg h] at q1
    exact q1.elim
def appD : D → List D → M D := fun x ds S => match lstAt S x, ds with
  | some (n, xs), [d] => if xs.length < sizeLine then .ok .non (S.set n (.lst (xs ++ [d]))) else .bad
  | _, _ => .bad
theorem o_app : OpM K rAppend appD := by
  intro W σ mu H S x xs v vs Q hS rv rs hp
  unfold appD at hp
  cases e : lstAt S x with
  | none => rw [e] at hp; exact hp.elim
  | some p =>
    obtain ⟨n, ds⟩ := p
    rw [e] at hp
    match xs, hp, rs with
    | [], hp, _ => exact hp.elim
    | [d], hp, rs =>
      obtain ⟨w, rfl, rw⟩ := one_of rs
      obtain ⟨a, us, rfl, rfl, hn, hs, h1, h2⟩ := lstAt_of hS rv e
      simp only at hp
      by_cases h : ds.length < sizeLine
      · rw [if_pos h] at hp
        have ext : Ext mu H mu (upd H a (.lst (us ++ [w]))) := ext_put hn h1 trivial
        exact ⟨a, us, w, rfl, rfl, h1, by rw [h2.length]; exact h, hp mu _ ext (hS.put (u' := .lst us) hn ext ⟨_, upd_same, (h2.append (.cons rw .nil)).mono ext⟩) _ .non⟩
      · rw [if_neg h] at hp
        exact hp.elim
    | _ :: _ :: _, hp, _ => exact hp.elim
def extD : D → List D → M D := fun x ds S => match lstAt S x, ds with
  | some (n, xs), [d] => match lstAt S d with
    | some (_, ys) => if xs.length + ys.length ≤ sizeLine then .ok .non (S.set n (.lst (xs ++ ys))) else .bad
    | none => .bad
  | _, _ => .bad
theorem o_ext : OpM K rExtend extD := by
  intro W σ mu H S x xs v vs Q hS rv rs hp
  unfold extD at hp
  cases e : lstAt S x with
  | none => rw [e] at hp; exact hp.elim
  | some p =>
    obtain ⟨n, ds⟩ := p
    rw [e] at hp
    match xs, hp, rs with
    | [], hp, _ => exact hp.elim
    | [d], hp, rs =>
      obtain ⟨w, rfl, rw⟩ := one_of rs
      obtain ⟨a, us, rfl, rfl, hn, hs, h1, h2⟩ := lstAt_of hS rv e
      simp only at hp
      cases e2 : lstAt S d with
      | none => rw [e2] at hp; exact hp.elim
      | some p2 =>
        obtain ⟨n2, ys⟩ := p2
        obtain ⟨b, ws, rfl, rfl, hn2, hs2, h3, h4⟩ := lstAt_of hS rw e2
        rw [e2] at hp
        simp only at hp
        by_cases h : ds.length + ys.length ≤ sizeLine
        · rw [if_pos h] at hp
          have ext : Ext mu H mu (upd H a (.lst (us ++ ws))) := ext_put hn h1 trivial
          exact ⟨a, b, us, ws, rfl, rfl, h1, h3, by rw [h2.length, h4.length]; exact h, hp mu _ ext (hS.put (u' := .lst us) hn ext ⟨_, upd_same, (h2.append h4).mono ext⟩) _ .non⟩
        · rw [if_neg h] at hp
          exact hp.elim
    | _ :: _ :: _, hp, _ => exact hp.elim
end
end Fa
namespace Fa
open PySem PySem.Spec PyProof.Rows L2
/-! ### calls with keywords -/
def pick {α : Type} (ix : List Nat) (l : List α) : List α := ix.filterMap fun i => l[i]?
theorem pick_vals : ∀ (ix : List Nat) {vs : List V} {us : List Value}, Vals vs us → Vals (pick ix vs) (pick ix us)
  | [], _, _, _ => .nil
  | i :: ix, vs, us, h => by
    unfold pick
    cases e : vs[i]? with
    | none =>
      have e2 := h.none_of e
      rw [List.filterMap_cons, List.filterMap_cons, e, e2]
      exact pick_vals ix h
    | some v =>
      obtain ⟨u, e2, r⟩ := h.get e
      rw [List.filterMap_cons, List.filterMap_cons, e, e2]
      exact .cons r (pick_vals ix h)
theorem pick_reps {K : PySem.W.Frag} {mu : List Addr} {H : Hp} : ∀ (ix : List Nat) {vs : List V} {ds : List D}, Reps K mu H vs ds → Reps K mu H (pick ix vs) (pick ix ds)
  | [], _, _, _ => .nil
  | i :: ix, vs, ds, h => by
    unfold pick
    cases e : ds[i]? with
    | none =>
      have e2 : vs[i]? = none := by
        rw [List.getElem?_eq_none_iff, h.length]
        exact List.getElem?_eq_none_iff.mp e
      rw [List.filterMap_cons, List.filterMap_cons, e, e2]
      exact pick_reps ix h
    | some v =>
      obtain ⟨u, e2, r⟩ := h.get e
      rw [List.filterMap_cons, List.filterMap_cons, e, e2]
      exact .cons r (pick_reps ix h)
def KB (K : PySem.W.Frag) (fd : FuncData) (ps ks : List Str) (n : Nat) (ix : List Nat) : Prop := ∀ (s : Shared) (us ws : List Value), K.In s.heap → us.length = n → ws.length = ks.length → BindsTo s fd ⟨us, ks.zip ws⟩ (ps.zip (pick ix (us ++ ws)))
abbrev SK (X : Cx) (W : WX) (kws : List Keyword) (m : Env → M (List D)) : Prop := PK X kws (rdA X.K W m)
def kwF (n : Nat) (ix : List Nat) (F : List D → M D) : List D → M D := fun zs => if zs.length = n then F (pick ix zs) else fail
section
variable {X : Cx} {W : WX} {k : Nat} {f : Addr} {fd : FuncData} {ps ks : List Str} {F : List D → M D} {x : Str} {p pos kpos : Pos} {e : Expr} {es : List Expr} {kws : List Keyword} {ma : Env → M D} {ms mk : Env → M (List D)} {ix : List Nat} {nm : Option Str}
theorem pkI {e : List Keyword} {t t' : TA} (h : PK X e t) (i : ∀ σ H Q, t' σ H Q → t σ H Q) : PK X e t' := ⟨fun w p s σ H Q I q => h.run w p s σ H Q I (i σ H Q q)⟩
theorem sk_nil : SK X W [] mNil := pkI pk_nil fun σ H Q q => by
  obtain ⟨r, mu, S, hS, he, hp⟩ := q
  exact hp mu H Ext.refl hS [] .nil
theorem sk_cons (ha : SE X W e ma) (hr : SK X W kws mk) : SK X W (⟨nm, e, kpos⟩ :: kws) (mCons ma mk) := pkI (pk_cons ha hr) fun σ H Q q => by
  obtain ⟨r, mu, S, hS, he, hp⟩ := q
  refine ⟨r, mu, S, hS, he, hp.bnd.imp fun x S1 mu1 H1 ex hS1 q1 v rv => ?_⟩
  refine ⟨r, mu1, S1, hS1, he.mono ex, q1.bnd.imp fun y S2 mu2 H2 ex2 hS2 q2 w rw => ?_⟩
  exact q2 mu2 H2 Ext.refl hS2 _ (.cons (rv.mono ex2) rw)
theorem se_callK0 (G : FnG X.prog X.w X.K X.mg X.base k f fd ps F) (hr : Room k X.A) (hgd : X.A.guards = some []) (tk : Takes X W) (hg : Gl X x) (hm : X.mg x = some (.ref f)) (hk : PySem.W.keepIn X.K (.ref f) = true) (hb : KB X.K fd ps ks 0 ix) (ar : arity ps.length F)
    (hkw : SK X W kws mk) (hall : (backToKw pos (keywordEach kws X.env)).all (·.1.isSome) = true := by rfl) (hks : (backToKw pos (keywordEach kws X.env)).filterMap (·.1) = ks := by rfl) (hdb : (x == ("__debug__" : Str)) = false := by decide)
    (hpl : ((backTo pos (starEach [] X.env)).any (·.1) || (backToKw pos (keywordEach kws X.env)).any (·.1.isNone)) = false := by rfl) :
    SE X W (.Call (.Name x p) [] kws pos) (mA (kwF ks.length ix F) mk) := by
  constructor
  intro pins s σ H Q I q
  obtain ⟨r, mu, S, hS, hE, hp⟩ := q
  refine wpAny_Call_Name_kw (ld_glob I hg hm ?_ hdb)
  have q1 : rdA X.K W mk σ H fun vs H1 => vs.length = ks.length ∧ (pick ix vs).length = ps.length ∧ prom X.K F (pick ix vs) H1 Q (WE W σ) := by
    refine ⟨r, mu, S, hS, hE, hp.bnd.imp fun ds S1 m2 H2 ex h2 q2 vs rv => ?_⟩
    unfold kwF at q2
    by_cases hl : ds.length = ks.length
    · rw [if_pos hl] at q2
      have rp := pick_reps ix rv
      refine ⟨by rw [rv.length]; exact hl, ?_, prom_of h2 rp q2⟩
      rw [rp.length]
      refine Decidable.byContradiction fun z => ?_
      rw [ar _ S1 z] at q2
      exact q2
    · rw [if_neg hl] at q2
      exact q2.elim
  refine PySem.W.callWith_KW0 (h₀ := X.base) I.ok.mod.kin hk hall (thn (hkw.run pos pins s σ H _ I q1) fun ws s1 z => ?_) hpl
  obtain ⟨vs, H1, I1, rv, hl, hl2, hpr⟩ := z
  rw [hks]
  refine ⟨I1.kIn, runG (ar := ⟨[], ks.zip ws⟩) (us := pick ix ws) G hr hgd tk I1 (hb s1 [] ws I1.kIn rfl (by rw [← rv.length]; exact hl)) (pick_vals ix rv) hl2 hpr⟩
def kwF2 (n m : Nat) (ix : List Nat) (F : List D → M D) (ds zs : List D) : M D := if ds.length = n ∧ zs.length = m then F (pick ix (ds ++ zs)) else fail
def mA2 (f : List D → List D → M D) (a b : Env → M (List D)) : Env → M D := fun r => bnd (a r) fun x => bnd (b r) fun y => f x y
theorem se_callK {n : Nat} (G : FnG X.prog X.w X.K X.mg X.base k f fd ps F) (hr : Room k X.A) (hgd : X.A.guards = some []) (tk : Takes X W) (hg : Gl X x) (hm : X.mg x = some (.ref f)) (hk : PySem.W.keepIn X.K (.ref f) = true) (hb : KB X.K fd ps ks n ix) (ar : arity ps.length F)
    (ha : SA X W (e :: es) ms) (hkw : SK X W kws mk) (hall : (backToKw pos (keywordEach kws X.env)).all (·.1.isSome) = true := by rfl) (hks : (backToKw pos (keywordEach kws X.env)).filterMap (·.1) = ks := by rfl) (hdb : (x == ("__debug__" : Str)) = false := by decide)
    (he : starEach (e :: es) X.env = (false, eval e X.env) :: starEach es X.env := by rfl)
    (hpl : ((backTo pos (starEach (e :: es) X.env)).any (·.1) || (backToKw pos (keywordEach kws X.env)).any (·.1.isNone)) = false := by rfl) :
    SE X W (.Call (.Name x p) (e :: es) kws pos) (mA2 (kwF2 n ks.length ix F) ms mk) := by
  constructor
  intro pins s σ H Q I q
  obtain ⟨r, mu, S, hS, hE, hp⟩ := q
  refine wpAny_Call_Name_kw (ld_glob I hg hm ?_ hdb)
  have q1 : rdA X.K W ms σ H fun as H1 => rdA X.K W mk σ H1 fun vs H2 => as.length = n ∧ vs.length = ks.length ∧ (pick ix (as ++ vs)).length = ps.length ∧ prom X.K F (pick ix (as ++ vs)) H2 Q (WE W σ) := by
    refine ⟨r, mu, S, hS, hE, hp.bnd.imp fun ds S1 m2 H2 ex h2 q2 as ra => ?_⟩
    refine ⟨r, m2, S1, h2, hE.mono ex, q2.bnd.imp fun zs S2 m3 H3 ex3 h3 q3 vs rv => ?_⟩
    unfold kwF2 at q3
    by_cases hl : ds.length = n ∧ zs.length = ks.length
    · rw [if_pos hl] at q3
      have rp := pick_reps ix ((ra.mono ex3).append rv)
      refine ⟨by rw [ra.length]; exact hl.1, by rw [rv.length]; exact hl.2, ?_, prom_of h3 rp q3⟩
      rw [rp.length]
      refine Decidable.byContradiction fun z => ?_
      rw [ar _ S2 z] at q3
      exact q3
    · rw [if_neg hl] at q3
      exact q3.elim
  refine PySem.W.callWith_KW (h₀ := X.base) I.ok.mod.kin hk hall (thn (ha.run pos pins s σ H _ I q1) fun us s1 z => ?_) hpl he
  obtain ⟨as, H1, I1, ra, q2⟩ := z
  refine thn (hkw.run pos pins s1 σ H1 _ I1 q2) fun ws s2 z => ?_
  obtain ⟨vs, H2, I2, rv, hn, hl, hl2, hpr⟩ := z
  rw [hks]
  refine ⟨I2.kIn, runG (ar := ⟨us, ks.zip ws⟩) (us := pick ix (us ++ ws)) G hr hgd tk I2 (hb s2 us ws I2.kIn (by rw [← ra.length]; exact hn) (by rw [← rv.length]; exact hl)) (pick_vals ix (ra.append rv)) hl2 hpr⟩
end
end Fa
namespace Fa
open PySem PySem.Spec PyProof.Rows L2
/-! ### the functions run: one equation a step, each fully applied -/
def bK {α β : Type} (m : Res α) (f : α → M β) : Res β := match m with
  | .ok a S' => f a S'
  | .err x S' => .err x S'
  | .bad => .bad
theorem bK_ok {α β : Type} (a : α) (S : Sto) (f : α → M β) : bK (.ok a S) f = f a S := id rfl
theorem bK_err {α β : Type} (a : Exn) (S : Sto) (f : α → M β) : bK (.err a S) f = .err a S := id rfl
theorem bK_bad {α β : Type} (f : α → M β) : bK .bad f = .bad := id rfl
theorem bnd_ap {α β : Type} (m : M α) (f : α → M β) (S : Sto) : bnd m f S = bK (m S) f := id rfl
theorem ret_ap {α : Type} (a : α) (S : Sto) : ret a S = .ok a S := id rfl
theorem fail_ap {α : Type} (S : Sto) : (fail S : Res α) = .bad := id rfl
section
variable (r : Env) (S : Sto) (d x y : D) (ds xs : List D) (a b : Env → M D) (ms : Env → M (List D)) (c c' : Env → M Bool) (p q : Env → Sto → Out) (i : Nat) (g : Tg) (k : List D → Env → M Env)
def vK : Option (Option D) → M D
  | some (some d) => ret d
  | _ => fail
theorem mVar_ap : mVar i r S = vK r[i]? S := by
  unfold mVar
  cases r[i]? with
  | none => rfl
  | some o => cases o <;> rfl
theorem vK_some : vK (some (some d)) S = .ok d S := id rfl
theorem mC_ap : mC d r S = .ok d S := id rfl
theorem m1_ap (f : D → M D) : m1 f a r S = bK (a r S) f := id rfl
def k2 (f : D → D → M D) (b : Env → M D) (r : Env) (x : D) : M D := bnd (b r) (f x)
theorem m2_ap (f : D → D → M D) : m2 f a b r S = bK (a r S) (k2 f b r) := id rfl
theorem k2_ap (f : D → D → M D) : k2 f b r x S = bK (b r S) (f x) := id rfl
theorem mNil_ap : mNil r S = .ok [] S := id rfl
def kCons (b : Env → M (List D)) (r : Env) (x : D) : M (List D) := bnd (b r) fun xs => ret (x :: xs)
def kCon (x : D) (xs : List D) : M (List D) := ret (x :: xs)
theorem mCons_ap : mCons a ms r S = bK (a r S) (kCons ms r) := id rfl
theorem kCons_ap : kCons ms r x S = bK (ms r S) (kCon x) := id rfl
theorem kCon_ap : kCon x xs S = .ok (x :: xs) S := id rfl
theorem mA_ap (f : List D → M D) : mA f ms r S = bK (ms r S) f := id rfl
def kIf (a b : Env → M D) (r : Env) (k : Bool) : M D := if k = true then a r else b r
theorem mIf_ap : mIf c a b r S = bK (c r S) (kIf a b r) := id rfl
theorem kIf_t : kIf a b r true S = a r S := id rfl
theorem kIf_f : kIf a b r false S = b r S := id rfl
theorem tOf_ap : tOf a r S = bK (a r S) isBl := id rfl
theorem isBl_ap (t : Bool) : isBl (.bl t) S = .ok t S := id rfl
def kNt (t : Bool) : M Bool := ret (!t)
theorem tNt_ap : tNt c r S = bK (c r S) kNt := id rfl
theorem kNt_ap (t : Bool) : kNt t S = .ok (!t) S := id rfl
def kAn (b : Env → M Bool) (r : Env) (k : Bool) : M Bool := if k = true then b r else ret false
theorem tAn_ap : tAn c c' r S = bK (c r S) (kAn c' r) := id rfl
theorem kAn_t : kAn c r true S = c r S := id rfl
theorem kAn_f : kAn c r false S = .ok false S := id rfl
def kOr (b : Env → M Bool) (r : Env) (k : Bool) : M Bool := if k = true then ret true else b r
theorem tOr_ap : Fa.tOr c c' r S = bK (c r S) (kOr c' r) := id rfl
theorem kOr_t : kOr c r true S = .ok true S := id rfl
theorem kOr_f : kOr c r false S = c r S := id rfl
def kNot (x : D) : M D := bnd (isBl x) fun b => ret (.bl (!b))
theorem mNot_ap : mNot a r S = bK (a r S) kNot := id rfl
theorem kNot_ap (t : Bool) : kNot (.bl t) S = .ok (.bl (!t)) S := id rfl
def kAnd (b : Env → M D) (r : Env) (x : D) : M D := bnd (isBl x) fun k => if k = true then b r else ret (.bl false)
theorem mAnd_ap : mAnd a b r S = bK (a r S) (kAnd b r) := id rfl
theorem kAnd_t : kAnd b r (.bl true) S = b r S := id rfl
theorem kAnd_f : kAnd b r (.bl false) S = .ok (.bl false) S := id rfl
def kOrV (b : Env → M D) (r : Env) (x : D) : M D := bnd (isBl x) fun k => if k = true then ret (.bl true) else b r
theorem mOr_ap : mOr a b r S = bK (a r S) (kOrV b r) := id rfl
theorem kOrV_t : kOrV b r (.bl true) S = .ok (.bl true) S := id rfl
theorem kOrV_f : kOrV b r (.bl false) S = b r S := id rfl
/-! statements -/
def sK (o : Out) (b : Env → Sto → Out) : Out := match o with
  | .nx r' S' => b r' S'
  | o => o
theorem sSeq_ap : sSeq p q r S = sK (p r S) q := by
  unfold sSeq sK
  cases p r S <;> rfl
theorem sK_nx : sK (.nx r S) q = q r S := id rfl
theorem sK_rt : sK (.rt d S) q = .rt d S := id rfl
theorem sK_bk : sK (.bk r S) q = .bk r S := id rfl
theorem sK_ct : sK (.ct r S) q = .ct r S := id rfl
theorem sK_ex (z : Exn) : sK (.ex z r S) q = .ex z r S := id rfl
theorem sK_bad : sK .bad q = .bad := id rfl
def oK {α : Type} (m : Res α) (f : α → Env → Sto → Out) (r : Env) : Out := match m with
  | .ok a S' => f a r S'
  | .err x S' => .ex x r S'
  | .bad => .bad
theorem oK_ok {α : Type} (a : α) (f : α → Env → Sto → Out) : oK (.ok a S) f r = f a r S := id rfl
theorem oK_err {α : Type} (z : Exn) (f : α → Env → Sto → Out) : oK (.err z S) f r = .ex z r S := id rfl
theorem oK_bad {α : Type} (f : α → Env → Sto → Out) : oK .bad f r = .bad := id rfl
theorem bndO_ap {α : Type} (m : Env → M α) (f : α → Env → Sto → Out) : bndO m f r S = oK (m r S) f r := by
  unfold bndO oK
  cases m r S <;> rfl
def kNx (_ : D) (r : Env) (S : Sto) : Out := .nx r S
def kRt (d : D) (_ : Env) (S : Sto) : Out := .rt d S
theorem kNx_ap : kNx d r S = .nx r S := id rfl
theorem kRt_ap : kRt d r S = .rt d S := id rfl
theorem sEx_ap : sEx a r S = oK (a r S) kNx r := bndO_ap r S a _
theorem sRet_ap : sRet a r S = oK (a r S) kRt r := bndO_ap r S a _
theorem sRetN_ap : sRetN r S = .rt .non S := id rfl
theorem sNx_ap : sNx r S = .nx r S := id rfl
theorem sBad_ap : sBad r S = .bad := id rfl
def kIfS (p q : Env → Sto → Out) (k : Bool) (r : Env) (S : Sto) : Out := if k = true then p r S else q r S
theorem sIf_ap : sIf c p q r S = oK (c r S) (kIfS p q) r := bndO_ap r S c _
theorem kIfS_t : kIfS p q true r S = p r S := id rfl
theorem kIfS_f : kIfS p q false r S = q r S := id rfl
theorem gN_ap : gN i d r S = .ok (r.set i (some d)) S := id rfl
theorem gT_ap : gT k (.tup ds) r S = k ds r S := id rfl
theorem gTc_ap : gTc g k (d :: ds) r S = bK (g d r S) (k ds) := id rfl
theorem gT0_ap : gT0 [] r S = .ok r S := id rfl
def kAs (g : Tg) (d : D) (r : Env) (S : Sto) : Out := match g d r S with
  | .ok r' S' => .nx r' S'
  | .err x S' => .ex x r S'
  | .bad => .bad
def kAs2 (m : Res Env) (r : Env) : Out := match m with
  | .ok r' S' => .nx r' S'
  | .err x S' => .ex x r S'
  | .bad => .bad
theorem sAs_ap : sAs a g r S = oK (a r S) (kAs g) r := bndO_ap r S a _
theorem kAs_ap : kAs g d r S = kAs2 (g d r S) r := id rfl
theorem kAs2_ok (r' : Env) : kAs2 (.ok r' S) r = .nx r' S := id rfl
def kPar (i j : Nat) (ds : List D) (r : Env) (S : Sto) : Out := match ds with
  | [x, y] => .nx ((r.set i (some x)).set j (some y)) S
  | _ => .bad
theorem sPar_ap (j : Nat) : sPar i j ms r S = oK (ms r S) (kPar i j) r := bndO_ap r S ms _
theorem kPar_ap (j : Nat) : kPar i j [x, y] r S = .nx ((r.set i (some x)).set j (some y)) S := id rfl
def kSub1 (mi : Env → M D) (d : D) (r : Env) (o : D) : M Env := bnd (mi r) fun i => bnd (setD o i d) fun _ => ret r
def kSub2 (d : D) (r : Env) (o i : D) : M Env := bnd (setD o i d) fun _ => ret r
def kSub3 (r : Env) (_ : Unit) : M Env := ret r
theorem gSubD_ap : gSubD a b d r S = bK (a r S) (kSub1 b d r) := id rfl
theorem kSub1_ap : kSub1 b d r x S = bK (b r S) (kSub2 d r x) := id rfl
theorem kSub2_ap : kSub2 d r x y S = bK (setD x y d S) (kSub3 r) := id rfl
theorem kSub3_ap : kSub3 r () S = .ok r S := id rfl
def fK (o : Out) : Res D := match o with
  | .nx _ S' => .ok .non S'
  | .rt d S' => .ok d S'
  | .ex x _ S' => .err x S'
  | _ => .bad
theorem fnM_ap (n np : Nat) (h : ds.length = np) : fnM n np p ds S = fK (p (ds.map some ++ List.replicate (n - np) none) S) := by
  unfold fnM fK
  rw [if_pos h]
  all_goals (cases p (ds.map some ++ List.replicate (n - np) none) S <;> rfl)
theorem fK_nx : fK (.nx r S) = .ok .non S := id rfl
theorem fK_rt : fK (.rt d S) = .ok d S := id rfl
theorem fK_ex (z : Exn) : fK (.ex z r S) = .err z S := id rfl
/-! operations -/
theorem tupD_ap (h : ds.length ≤ sizeLine) : tupD ds S = .ok (.tup ds) S := by
  unfold tupD
  rw [if_pos h]
  rfl
theorem lstD_ap (h : ds.length ≤ sizeLine) : lstD ds S = .ok (.loc S.length) (S ++ [.lst ds]) := by
  unfold lstD
  rw [if_pos h]
variable (m n : Int)
theorem add_ii : addD (.int m) (.int n) S = .ok (.int (m + n)) S := id rfl
theorem add_tt (h : ds.length + xs.length ≤ sizeLine) : addD (.tup ds) (.tup xs) S = .ok (.tup (ds ++ xs)) S := by
  show (if ds.length + xs.length ≤ sizeLine then ret (D.tup (ds ++ xs)) else fail) S = _
  rw [if_pos h]
  rfl
theorem add_ss (u v : Str) (h : u.length + v.length ≤ sizeLine) : addD (.str u) (.str v) S = .ok (.str (u ++ v)) S := by
  show (if u.length + v.length ≤ sizeLine then ret (D.str (u ++ v)) else fail) S = _
  rw [if_pos h]
  rfl
theorem add_ll {i j : Nat} {ds xs : List D} (h1 : S[i]? = some (.lst ds)) (h2 : S[j]? = some (.lst xs)) (h : ds.length + xs.length ≤ sizeLine) : addD (.loc i) (.loc j) S = .ok (.loc S.length) (S ++ [.lst (ds ++ xs)]) := by
  unfold addD
  simp only [h1, h2]
  rw [if_pos h]
theorem sub_ii : subD (.int m) (.int n) S = .ok (.int (m - n)) S := id rfl
theorem mul_ii (h : mulC m n = true) : mulD (.int m) (.int n) S = .ok (.int (m * n)) S := by
  show (if mulC m n = true then ret (D.int (m * n)) else fail) S = _
  rw [if_pos h]
  rfl
theorem fdiv_ii (h : divC m n = true) : fdivD (.int m) (.int n) S = .ok (.int (m.fdiv n)) S := by
  show (if divC m n = true then ret (D.int (m.fdiv n)) else fail) S = _
  rw [if_pos h]
  rfl
theorem mod_ii (h : modC m n = true) : modD (.int m) (.int n) S = .ok (.int (m.fmod n)) S := by
  show (if modC m n = true then ret (D.int (m.fmod n)) else fail) S = _
  rw [if_pos h]
  rfl
theorem pow_ii (h : powC m n = true) : powD (.int m) (.int n) S = .ok (.int (m ^ n.toNat)) S := by
  show (if powC m n = true then ret (D.int (m ^ n.toNat)) else fail) S = _
  rw [if_pos h]
  rfl
theorem neg_i : negD (.int m) S = .ok (.int (-m)) S := id rfl
theorem lt_ii : ltD (.int m) (.int n) S = .ok (.bl (decide (m < n))) S := id rfl
theorem le_ii : leD (.int m) (.int n) S = .ok (.bl (decide (m ≤ n))) S := id rfl
theorem gt_ii : gtD (.int m) (.int n) S = .ok (.bl (decide (n < m))) S := id rfl
theorem ge_ii : geD (.int m) (.int n) S = .ok (.bl (decide (n ≤ m))) S := id rfl
theorem isN_n (neg : Bool) : isN neg .non .non S = .ok (.bl (!neg)) S := id rfl
theorem isN_i (neg : Bool) : isN neg (.int m) .non S = .ok (.bl neg) S := id rfl
theorem isN_t (neg : Bool) : isN neg (.tup ds) .non S = .ok (.bl neg) S := id rfl
theorem isN_s (neg : Bool) (z : Str) : isN neg (.str z) .non S = .ok (.bl neg) S := id rfl
theorem isN_b (neg : Bool) (z : Bool) : isN neg (.bl z) .non S = .ok (.bl neg) S := id rfl
theorem isN_l (neg : Bool) : isN neg (.loc i) .non S = .ok (.bl neg) S := id rfl
theorem abs_i : absD [.int m] S = .ok (.int (if m < 0 then -m else m)) S := id rfl
theorem max_ii : maxD [.int m, .int n] S = .ok (.int (if n > m then n else m)) S := id rfl
theorem min_ii : minD [.int m, .int n] S = .ok (.int (if n < m then n else m)) S := id rfl
theorem int_i : Fa.intD [.int m] S = .ok (.int m) S := id rfl
theorem int_b (t : Bool) : Fa.intD [.bl t] S = .ok (.int (if t then 1 else 0)) S := id rfl
theorem len_t : lenD [.tup ds] S = .ok (.int ds.length) S := id rfl
theorem len_r : lenD [.rls ds] S = .ok (.int ds.length) S := id rfl
theorem len_l {i : Nat} {ds : List D} (h : S[i]? = some (.lst ds)) : lenD [.loc i] S = .ok (.int ds.length) S := by
  unfold lenD lenOf
  simp only [h]
theorem ix_t {ds : List D} {n : Int} {d : D} (h : atI ds n = some d) : ixD (.tup ds) (.int n) S = .ok d S := by
  show (match atI ds n with
    | some d => ret d
    | none => fail) S = _
  rw [h]
  rfl
theorem ix_r {ds : List D} {n : Int} {d : D} (h : atI ds n = some d) : ixD (.rls ds) (.int n) S = .ok d S := by
  show (match atI ds n with
    | some d => ret d
    | none => fail) S = _
  rw [h]
  rfl
theorem ix_l {i : Nat} {ds : List D} {n : Int} {d : D} (h : S[i]? = some (.lst ds)) (h2 : atI ds n = some d) : ixD (.loc i) (.int n) S = .ok d S := by
  unfold ixD
  simp only [h, h2]
theorem set_l {i j : Nat} {ds : List D} {n : Int} (h : S[i]? = some (.lst ds)) (h2 : ixN ds.length n = some j) : setD (.loc i) (.int n) d S = .ok () (S.set i (.lst (ds.set j d))) := by
  unfold setD
  simp only [h, h2]
theorem isi_i (n : String) (t : Bool) (h : isa .int n = some t) : isiD [.int m, .ty n] S = .ok (.bl t) S := by
  unfold isiD tyD
  simp only [h]
theorem isi_b (n : String) (z t : Bool) (h : isa .bool n = some t) : isiD [.bl z, .ty n] S = .ok (.bl t) S := by
  unfold isiD tyD
  simp only [h]
theorem isi_s (n : String) (z : Str) (t : Bool) (h : isa .str n = some t) : isiD [.str z, .ty n] S = .ok (.bl t) S := by
  unfold isiD tyD
  simp only [h]
theorem isi_n (n : String) (t : Bool) (h : isa .non n = some t) : isiD [.non, .ty n] S = .ok (.bl t) S := by
  unfold isiD tyD
  simp only [h]
theorem isi_t (n : String) (t : Bool) (h : isa .tuple n = some t) : isiD [.tup ds, .ty n] S = .ok (.bl t) S := by
  unfold isiD tyD
  simp only [h]
theorem isi_r (n : String) (t : Bool) (h : isa .list n = some t) : isiD [.rls ds, .ty n] S = .ok (.bl t) S := by
  unfold isiD tyD
  simp only [h]
theorem isi_l {i : Nat} {ds : List D} (n : String) (t : Bool) (h1 : S[i]? = some (.lst ds)) (h : isa .list n = some t) : isiD [.loc i, .ty n] S = .ok (.bl t) S := by
  unfold isiD tyD
  simp only [h1, h]
end
theorem le_line {n : Nat} (h : n ≤ 1000) : n ≤ sizeLine := Nat.le_trans h (by rw [sizeLine_eq]; decide)
/-! places in the store -/
theorem at_end (S : Sto) (o : MO) : (S ++ [o])[S.length]? = some o := by simp
theorem at_end2 (S l : Sto) (o : MO) : (S ++ o :: l)[S.length]? = some o := by simp
theorem set_end (S : Sto) (o o' : MO) : (S ++ [o]).set S.length o' = S ++ [o'] := by simp
theorem set_end2 (S l : Sto) (o o' : MO) : (S ++ o :: l).set S.length o' = S ++ o' :: l := by simp
theorem at_old {S l : Sto} {i : Nat} {o : MO} (h : S[i]? = some o) : (S ++ l)[i]? = some o := by
  obtain ⟨hl, _⟩ := List.getElem?_eq_some_iff.mp h
  rw [List.getElem?_append_left hl]
  exact h
theorem eq_ii (neg : Bool) (m n : Int) (S : Sto) : eqB neg (.int m) (.int n) S = .ok (.bl (if neg then !decide (m = n) else decide (m = n))) S := id rfl
theorem eq_bb (neg : Bool) (m n : Bool) (S : Sto) : eqB neg (.bl m) (.bl n) S = .ok (.bl (if neg then !decide (m = n) else decide (m = n))) S := id rfl
theorem eq_ss (neg : Bool) (m n : Str) (S : Sto) : eqB neg (.str m) (.str n) S = .ok (.bl (if neg then !decide (m = n) else decide (m = n))) S := id rfl
theorem eq_tt (neg : Bool) (m n : List D) (S : Sto) : eqB neg (.tup m) (.tup n) S = eqS neg (.tup m) (.tup n) S := id rfl
/-! ### comprehensions and loops, by what is walked -/
theorem push_at {S : Sto} {n : Nat} {ds : List D} (d : D) (h : S[n]? = some (.lst ds)) (hz : ds.length < sizeLine) : push n d S = some (S.set n (.lst (ds ++ [d]))) := by
  unfold push
  simp only [h, hz, if_true]
/-- nothing but new things is made -/
theorem lc_pure {src : Src} (items : List D) (f : D → D) {g : Tg} {t : Env → M Bool} {e : Env → M D} {r : Env} {S0 : Sto} (hn : ∀ l i, nextD src i (S0 ++ l) = some items[i]?)
    (h : ∀ d ∈ items, ∀ l, ∃ r' l', g d r (S0 ++ l) = .ok r' (S0 ++ l) ∧ t r' (S0 ++ l) = .ok true (S0 ++ l) ∧ e r' (S0 ++ l) = .ok (f d) (S0 ++ l ++ l')) (hz : items.length ≤ sizeLine) :
    ∃ l, lcGo src g t e S0.length r items.length 0 (S0 ++ [.lst []]) = .ok (.loc S0.length) (S0 ++ .lst (items.map f) :: l) := by
  have go : ∀ (k i : Nat) (l : Sto), i + k = items.length → ∃ l', lcGo src g t e S0.length r k i (S0 ++ .lst ((items.take i).map f) :: l) = .ok (.loc S0.length) (S0 ++ .lst (items.map f) :: l') := by
    intro k
    induction k with
    | zero =>
      intro i l hi
      have e0 : items[i]? = none := List.getElem?_eq_none_iff.mpr (by omega)
      refine ⟨l, ?_⟩
      unfold lcGo
      rw [hn, e0, List.take_of_length_le (by omega)]
    | succ k ih =>
      intro i l hi
      have hlt : i < items.length := by omega
      have e0 : items[i]? = some items[i] := List.getElem?_eq_getElem hlt
      obtain ⟨r', l', h1, h2, h3⟩ := h items[i] (List.getElem_mem hlt) (.lst ((items.take i).map f) :: l)
      unfold lcGo
      rw [hn, e0]
      simp only [h1, h2, h3]
      have hp : (S0 ++ (.lst ((items.take i).map f) :: l) ++ l')[S0.length]? = some (.lst ((items.take i).map f)) := by simp
      rw [push_at _ hp (by rw [List.length_map, List.length_take]; omega)]
      have e1 : (S0 ++ (.lst ((items.take i).map f) :: l) ++ l').set S0.length (.lst ((items.take i).map f ++ [f items[i]])) = S0 ++ .lst ((items.take (i + 1)).map f) :: (l ++ l') := by
        rw [List.append_assoc, List.cons_append, set_end2, List.take_add_one, e0, List.map_append]
        rfl
      simp only [e1]
      exact ih (i + 1) (l ++ l') (by omega)
  simpa using go items.length 0 [] (by omega)
theorem mLc_pure {m : Env → M Src} {src : Src} (items : List D) (f : D → D) {g : Tg} {t : Env → M Bool} {e : Env → M D} {vs : List Nat} {r : Env} {S S0 : Sto} (hm : m r S = .ok src S0) (ht : turns src S0 = items.length) (hn : ∀ l i, nextD src i (S0 ++ l) = some items[i]?)
    (h : ∀ d ∈ items, ∀ l, ∃ r' l', g d (wipeE r vs) (S0 ++ l) = .ok r' (S0 ++ l) ∧ t r' (S0 ++ l) = .ok true (S0 ++ l) ∧ e r' (S0 ++ l) = .ok (f d) (S0 ++ l ++ l')) (hz : items.length ≤ sizeLine) :
    ∃ l, mLc m g t e vs r S = .ok (.loc S0.length) (S0 ++ .lst (items.map f) :: l) := by
  unfold mLc
  rw [bnd_ap, hm, bK_ok, ht]
  exact lc_pure items f hn h hz
/-- a comprehension whose elements draw: all are d0 -/
theorem lc_draw {src : Src} (k : Nat) (d0 : D) (it : Nat → D) {g : Tg} {t : Env → M Bool} {e : Env → M D} {r : Env} {n : Nat} (I : Nat → Sto → Prop) (hn : ∀ i S, I i S → nextD src i S = some (if i < k then some (it i) else none))
    (h : ∀ i S, i < k → I i S → ∃ r' S', g (it i) r S = .ok r' S ∧ t r' S = .ok true S ∧ e r' S = .ok d0 S' ∧ S'[n]? = S[n]? ∧ I (i + 1) S') (hI : ∀ i S o, I i S → I i (S.set n o)) (hz : k ≤ sizeLine) {S : Sto} (h0 : I 0 S) (hS : S[n]? = some (.lst [])) :
    ∃ S', lcGo src g t e n r k 0 S = .ok (.loc n) S' ∧ S'[n]? = some (.lst (List.replicate k d0)) ∧ I k S' := by
  have go : ∀ (j i : Nat) (S : Sto), i + j = k → I i S → S[n]? = some (.lst (List.replicate i d0)) → ∃ S', lcGo src g t e n r j i S = .ok (.loc n) S' ∧ S'[n]? = some (.lst (List.replicate k d0)) ∧ I k S' := by
    intro j
    induction j with
    | zero =>
      intro i S hi hI0 hS
      have : i = k := by omega
      subst this
      refine ⟨S, ?_, hS, hI0⟩
      unfold lcGo
      rw [hn i S hI0, if_neg (Nat.lt_irrefl _)]
    | succ j ih =>
      intro i S hi hI0 hS
      have hlt : i < k := by omega
      obtain ⟨r', S', h1, h2, h3, h4, h5⟩ := h i S hlt hI0
      have hp : S'[n]? = some (.lst (List.replicate i d0)) := h4.trans hS
      unfold lcGo
      rw [hn i S hI0, if_pos hlt]
      simp only [h1, h2, h3]
      rw [push_at _ hp (by rw [List.length_replicate]; omega)]
      refine ih (i + 1) _ (by omega) (hI _ _ _ h5) ?_
      rw [List.getElem?_set_self (List.getElem?_eq_some_iff.mp hp).1, List.replicate_succ']
  exact go k 0 S (by omega) h0 hS
/-- a for, by an invariant; each turn ends by going on -/
theorem for_inv {src : Src} (k : Nat) (it : Nat → D) {g : Tg} {b : Env → Sto → Out} (I : Nat → Env → Sto → Prop) (hn : ∀ i r S, I i r S → nextD src i S = some (if i < k then some (it i) else none))
    (h : ∀ i r S, i < k → I i r S → ∃ r1 S1 r2 S2, g (it i) r S = .ok r1 S1 ∧ (b r1 S1 = .nx r2 S2 ∨ b r1 S1 = .ct r2 S2) ∧ I (i + 1) r2 S2) {r : Env} {S : Sto} (h0 : I 0 r S) :
    ∃ r' S', forGo src g b k 0 r S = .nx r' S' ∧ I k r' S' := by
  have go : ∀ (j i : Nat) (r : Env) (S : Sto), i + j = k → I i r S → ∃ r' S', forGo src g b j i r S = .nx r' S' ∧ I k r' S' := by
    intro j
    induction j with
    | zero =>
      intro i r S hi hI
      have : i = k := by omega
      subst this
      refine ⟨r, S, ?_, hI⟩
      unfold forGo
      rw [hn i r S hI, if_neg (Nat.lt_irrefl _)]
    | succ j ih =>
      intro i r S hi hI
      have hlt : i < k := by omega
      obtain ⟨r1, S1, r2, S2, h1, h2, h3⟩ := h i r S hlt hI
      unfold forGo
      rw [hn i r S hI, if_pos hlt]
      simp only [h1]
      rcases h2 with h2 | h2
      · simp only [h2]
        exact ih (i + 1) r2 S2 (by omega) h3
      · simp only [h2]
        exact ih (i + 1) r2 S2 (by omega) h3
  exact go k 0 r S (by omega) h0
theorem sFor_inv {m : Env → M Src} {src : Src} (k : Nat) (it : Nat → D) {g : Tg} {b : Env → Sto → Out} (I : Nat → Env → Sto → Prop) {r : Env} {S S0 : Sto} (hm : m r S = .ok src S0) (ht : turns src S0 = k) (hn : ∀ i r S, I i r S → nextD src i S = some (if i < k then some (it i) else none))
    (h : ∀ i r S, i < k → I i r S → ∃ r1 S1 r2 S2, g (it i) r S = .ok r1 S1 ∧ (b r1 S1 = .nx r2 S2 ∨ b r1 S1 = .ct r2 S2) ∧ I (i + 1) r2 S2) (h0 : I 0 r S0) :
    ∃ r' S', sFor m g b r S = .nx r' S' ∧ I k r' S' := by
  unfold sFor
  rw [bndO_ap, hm, oK_ok, ht]
  exact for_inv k it I hn h h0
theorem next_rng (lo : Int) (k i : Nat) (S : Sto) : nextD (.rng lo k) i S = some (if i < k then some (.int (lo + i)) else none) := id rfl
theorem toB_rep (k : Nat) (b : Bool) : toB (List.replicate k (.bl b)) = some (List.replicate k b) := by
  induction k with
  | zero => rfl
  | succ k ih =>
    rw [List.replicate_succ, List.replicate_succ]
    unfold toB
    rw [ih]
    rfl
theorem all_rep {n k : Nat} {S : Sto} (h : S[n]? = some (.lst (List.replicate k (.bl true)))) : allD [.loc n] S = .ok (.bl true) S := by
  unfold allD
  simp only [h, toB_rep]
  have : (List.replicate k true).all id = true := by
    rw [List.all_eq_true]
    intro b hb
    exact (List.mem_replicate.mp hb).2
  rw [this]
theorem toB_map {α : Type} (f : α → Bool) : ∀ xs : List α, toB (xs.map fun x => .bl (f x)) = some (xs.map f)
  | [] => rfl
  | x :: xs => by
    show (toB (xs.map fun x => .bl (f x))).map (f x :: ·) = _
    rw [toB_map f xs]
    rfl
theorem all_map {α : Type} {n : Nat} {S : Sto} (f : α → Bool) (xs : List α) (h : S[n]? = some (.lst (xs.map fun x => .bl (f x)))) : allD [.loc n] S = .ok (.bl (xs.all f)) S := by
  unfold allD
  simp only [h, toB_map, List.all_map]
  rfl
/-! lists grown, ranges -/
def kLM (f : D → List D → M D) (ms : Env → M (List D)) (r : Env) (x : D) : M D := fun S => if (lstAt S x).isSome = true then bnd (ms r) (f x) S else .bad
theorem mLM_ap (f : D → List D → M D) (o : Env → M D) (ms : Env → M (List D)) (r : Env) (S : Sto) : mLM f o ms r S = bK (o r S) (kLM f ms r) := id rfl
theorem lstAt_l {S : Sto} {n : Nat} {ds : List D} (h : S[n]? = some (.lst ds)) : lstAt S (.loc n) = some (n, ds) := by
  unfold lstAt
  simp only [h]
theorem kLM_l {f : D → List D → M D} {ms : Env → M (List D)} {r : Env} {S : Sto} {n : Nat} {ds : List D} (h : S[n]? = some (.lst ds)) : kLM f ms r (.loc n) S = bK (ms r S) (f (.loc n)) := by
  unfold kLM
  rw [lstAt_l h]
  rfl
theorem app_l {S : Sto} {n : Nat} {ds : List D} (d : D) (h : S[n]? = some (.lst ds)) (hz : ds.length < sizeLine) : appD (.loc n) [d] S = .ok .non (S.set n (.lst (ds ++ [d]))) := by
  unfold appD
  rw [lstAt_l h]
  simp only [hz, if_true]
theorem ext_l {S : Sto} {n m : Nat} {ds es : List D} (h : S[n]? = some (.lst ds)) (h2 : S[m]? = some (.lst es)) (hz : ds.length + es.length ≤ sizeLine) : extD (.loc n) [.loc m] S = .ok .non (S.set n (.lst (ds ++ es))) := by
  unfold extD
  rw [lstAt_l h]
  simp only [lstAt_l h2, hz, if_true]
theorem mRng1_ap (ms : Env → M (List D)) (r : Env) (S : Sto) : mRng1 ms r S = bK (ms r S) rngOf1 := id rfl
theorem mRng2_ap (ms : Env → M (List D)) (r : Env) (S : Sto) : mRng2 ms r S = bK (ms r S) rngOf2 := id rfl
theorem mSrc_ap (m : Env → M D) (r : Env) (S : Sto) : mSrc m r S = bK (m r S) srcOf := id rfl
theorem rngOk_i {j : Int} (h1 : -4611686018427387904 ≤ j) (h2 : j < 4611686018427387904) : rngOk j = true := by
  unfold rngOk
  rw [decide_eq_true (show -(2 ^ 62) ≤ j by omega), decide_eq_true (show j < 2 ^ 62 by omega)]
  rfl
theorem rng1_i {j : Int} (h1 : -4611686018427387904 ≤ j) (h2 : j < 4611686018427387904) (S : Sto) : rngOf1 [.int j] S = .ok (.rng 0 j.toNat) S := by
  show (if rngOk j = true then ret (Src.rng 0 j.toNat) else fail) S = _
  rw [if_pos (rngOk_i h1 h2)]
  rfl
theorem rng2_i {i j : Int} (h3 : -4611686018427387904 ≤ i) (h4 : i < 4611686018427387904) (h1 : -4611686018427387904 ≤ j) (h2 : j < 4611686018427387904) (S : Sto) : rngOf2 [.int i, .int j] S = .ok (.rng i (j - i).toNat) S := by
  show (if (rngOk i && rngOk j) = true then ret (Src.rng i (j - i).toNat) else fail) S = _
  rw [rngOk_i h1 h2, rngOk_i h3 h4]
  rfl
theorem src_t (ds : List D) (S : Sto) : srcOf (.tup ds) S = .ok (.items ds) S := id rfl
theorem src_r (ds : List D) (S : Sto) : srcOf (.rls ds) S = .ok (.items ds) S := id rfl
theorem src_l {S : Sto} {n : Nat} {ds : List D} (h : S[n]? = some (.lst ds)) : srcOf (.loc n) S = .ok (.lst n) S := by
  unfold srcOf
  simp only [h]
def rngItems (lo : Int) (k : Nat) : List D := (List.range k).map fun (j : Nat) => D.int (lo + (j : Int))
theorem rngItems_len (lo : Int) (k : Nat) : (rngItems lo k).length = k := by simp [rngItems]
theorem next_items (lo : Int) (k i : Nat) (S : Sto) : nextD (.rng lo k) i S = some (rngItems lo k)[i]? := by
  rw [next_rng]
  unfold rngItems
  rw [List.getElem?_map]
  by_cases h : i < k
  · rw [if_pos h, List.getElem?_eq_getElem (by simpa using h), List.getElem_range]
    rfl
  · rw [if_neg h, List.getElem?_eq_none_iff.mpr (by rw [List.length_range]; omega)]
    rfl
theorem next_lst {S : Sto} {n i : Nat} {ds : List D} (h : S[n]? = some (.lst ds)) : nextD (.lst n) i S = some ds[i]? := by
  unfold nextD
  simp only [h]
theorem turns_lst {S : Sto} {n : Nat} {ds : List D} (h : S[n]? = some (.lst ds)) : turns (.lst n) S = ds.length := by
  unfold turns
  simp only [h]
end Fa
namespace Fa
open PySem PySem.Spec PyProof.Rows L2
/-! ### a run in a store of its own -/
mutual
def sft (k : Nat) : D → D
  | .loc n => .loc (k + n)
  | .tup ds => .tup (sfts k ds)
  | .ktp ds => .ktp (sfts k ds)
  | .ttp ds => .ttp (sfts k ds)
  | .rls ds => .rls (sfts k ds)
  | .exn C ns ds => .exn C ns (sfts k ds)
  | .non => .non
  | .bl b => .bl b
  | .int i => .int i
  | .str x => .str x
  | .adr a => .adr a
  | .ty n => .ty n
def sfts (k : Nat) : List D → List D
  | [] => []
  | d :: ds => sft k d :: sfts k ds
end
mutual
def noLoc : D → Bool
  | .loc _ => false
  | .tup ds => noLocs ds
  | .ktp ds => noLocs ds
  | .ttp ds => noLocs ds
  | .rls ds => noLocs ds
  | .exn _ _ ds => noLocs ds
  | .non | .bl _ | .int _ | .str _ | .adr _ | .ty _ => true
def noLocs : List D → Bool
  | [] => true
  | d :: ds => noLoc d && noLocs ds
end
def sftK {κ : Type} (k : Nat) (fs : List (κ × D)) : List (κ × D) := fs.map fun p => (p.1, sft k p.2)
def sftO (k : Nat) : MO → MO
  | .lst ds => .lst (sfts k ds)
  | .dct kvs => .dct (sftK k kvs)
  | .dcT kvs => .dcT (sftK k kvs)
  | .ins C fs => .ins C (sftK k fs)
  | .tab P q => .tab P q
def sftE (k : Nat) (r : Env) : Env := r.map (Option.map (sft k))
def keepR (r : Env) : Env := r.map fun o => o.bind fun d => if noLoc d = true then some d else none
section
variable {K : PySem.W.Frag} {mu mu2 : List Addr} {H H2 : Hp}
mutual
theorem rep_sft : ∀ {v : V} {d : D}, Rep K mu2 H2 v d → Rep K (mu ++ mu2) H2 v (sft mu.length d)
  | _, _, .non => .non
  | _, _, .bl b => .bl b
  | _, _, .int i => .int i
  | _, _, .str x => .str x
  | _, _, .ty n => .ty n
  | _, _, .adr a => .adr a
  | _, _, .loc h => .loc (by rw [List.getElem?_append_right (Nat.le_add_right _ _), Nat.add_sub_cancel_left]; exact h)
  | _, _, .tup hd h r => .tup hd h (reps_sft r)
  | _, _, .ktp h r => .ktp h (reps_sft r)
  | _, _, .ttp h r => .ttp h (reps_sft r)
  | _, _, .rls h r => .rls h (reps_sft r)
  | _, _, .exn h0 h1 h2 h3 h4 h5 r => .exn h0 h1 h2 h3 h4 h5 (reps_sft r)
theorem reps_sft : ∀ {vs : List V} {ds : List D}, Reps K mu2 H2 vs ds → Reps K (mu ++ mu2) H2 vs (sfts mu.length ds)
  | _, _, .nil => .nil
  | _, _, .cons r t => .cons (rep_sft r) (reps_sft t)
end
theorem kreps_sft {κ : Type} : ∀ {s : List (κ × V)} {r : List (κ × D)}, KReps K mu2 H2 s r → KReps K (mu ++ mu2) H2 s (sftK mu.length r)
  | _, _, .nil => .nil
  | _, _, .cons h t => .cons ⟨h.1, rep_sft h.2⟩ (kreps_sft t)
theorem erep_sft : ∀ {s : L2.St} {r : Env}, ERep K mu2 H2 s r → ERep K (mu ++ mu2) H2 s (sftE mu.length r)
  | _, _, .nil => .nil
  | v :: s, none :: r, .cons h t => .cons (by cases v <;> trivial) (erep_sft t)
  | some v :: s, some d :: r, .cons h t => .cons (show Rep K _ H2 v _ from rep_sft h) (erep_sft t)
theorem morep_sft {a : Addr} : ∀ {o : MO}, MoRep K mu2 H2 a o → MoRep K (mu ++ mu2) H2 a (sftO mu.length o)
  | .lst _, ⟨vs, h, r⟩ => ⟨vs, h, reps_sft r⟩
  | .dct _, ⟨vs, h, r⟩ => ⟨vs, h, kreps_sft r⟩
  | .dcT _, ⟨vs, h, r⟩ => ⟨vs, h, kreps_sft r⟩
  | .ins _ _, ⟨C, dx, vs, hc, h, r⟩ => ⟨C, dx, vs, hc, h, kreps_sft r⟩
  | .tab _ _, h => h
mutual
theorem rep_noLoc : ∀ {v : V} {d : D}, noLoc d = true → Rep K mu H v d → Rep K [] H v d
  | _, _, _, .non => .non
  | _, _, _, .bl b => .bl b
  | _, _, _, .int i => .int i
  | _, _, _, .str x => .str x
  | _, _, _, .ty n => .ty n
  | _, _, _, .adr a => .adr a
  | _, _, n, .loc h => by simp [noLoc] at n
  | _, _, n, .tup hd h r => .tup hd h (reps_noLoc (by simpa [noLoc] using n) r)
  | _, _, n, .ktp h r => .ktp h (reps_noLoc (by simpa [noLoc] using n) r)
  | _, _, n, .ttp h r => .ttp h (reps_noLoc (by simpa [noLoc] using n) r)
  | _, _, n, .rls h r => .rls h (reps_noLoc (by simpa [noLoc] using n) r)
  | _, _, n, .exn h0 h1 h2 h3 h4 h5 r => .exn h0 h1 h2 h3 h4 h5 (reps_noLoc (by simpa [noLoc] using n) r)
theorem reps_noLoc : ∀ {vs : List V} {ds : List D}, noLocs ds = true → Reps K mu H vs ds → Reps K [] H vs ds
  | _, _, _, .nil => .nil
  | _, _, n, .cons r t => by
    simp only [noLocs, Bool.and_eq_true] at n
    exact .cons (rep_noLoc n.1 r) (reps_noLoc n.2 t)
end
theorem erep_keep : ∀ {s : L2.St} {r : Env}, ERep K mu H s r → ERep K [] H s (keepR r)
  | _, _, .nil => .nil
  | v :: s, none :: r, .cons h t => .cons (by cases v <;> trivial) (erep_keep t)
  | some v :: s, some d :: r, .cons h t => by
    refine .cons ?_ (erep_keep t)
    by_cases n : noLoc d = true
    · simp only [Option.bind_some, if_pos n]
      exact rep_noLoc n h
    · simp only [Option.bind_some, if_neg n]
      trivial
theorem frame {S S2 : Sto} (hS : HRep K mu H S) (e : Ext [] H mu2 H2) (h2 : HRep K mu2 H2 S2) : Ext mu H (mu ++ mu2) H2 ∧ HRep K (mu ++ mu2) H2 (S ++ S2.map (sftO mu.length)) := by
  obtain ⟨l, e1, fr⟩ := e.pre
  rw [List.nil_append] at e1
  subst e1
  have all : ∀ a o, H a = some o → H2 a = some o := fun a o h => e.rest a o (by simp) h
  have E : Ext mu H (mu ++ mu2) H2 := ⟨⟨mu2, rfl, fr⟩, e.live, fun a o _ h => all a o h, fun a φ h => all a _ h, fun a φ h => all a _ h, fun a φ h => all a _ h, fun a o u h => all a _ h⟩
  refine ⟨E, by simp [hS.len, h2.len], ?_, fun n o a e1 e2 => ?_⟩
  · rw [List.nodup_append]
    refine ⟨hS.nd, h2.nd, fun x hx y hy z => ?_⟩
    subst z
    obtain ⟨n, en⟩ := List.getElem?_of_mem hx
    obtain ⟨o, _, q⟩ := hS.obj en
    obtain ⟨u, eu⟩ := q.some
    rw [fr x hy] at eu
    cases eu
  · by_cases hn : n < S.length
    · rw [List.getElem?_append_left hn] at e1
      rw [List.getElem?_append_left (by rw [← hS.len]; exact hn)] at e2
      have q := hS.ob n o a e1 e2
      obtain ⟨u, eu⟩ := q.some
      exact q.mono E (by rw [eu]; exact all a u eu)
    · have hn' : S.length ≤ n := Nat.le_of_not_lt hn
      rw [List.getElem?_append_right hn'] at e1
      rw [List.getElem?_append_right (by rw [← hS.len]; exact hn'), ← hS.len] at e2
      rw [List.getElem?_map] at e1
      obtain ⟨o2, e3, e4⟩ := map_some e1
      subst e4
      exact morep_sft (h2.ob _ o2 a e3 e2)
end
def sftX (k : Nat) (x : Exn) : Exn := { x with fs := sftK k x.fs }
def shR (S : Sto) : Res D → Res D
  | .ok d S' => .ok (sft S.length d) (S ++ S'.map (sftO S.length))
  | .err x S' => .err (sftX S.length x) (S ++ S'.map (sftO S.length))
  | .bad => .bad
def shO (S : Sto) : Out → Out
  | .nx r S' => .nx (sftE S.length r) (S ++ S'.map (sftO S.length))
  | .bk r S' => .bk (sftE S.length r) (S ++ S'.map (sftO S.length))
  | .ct r S' => .ct (sftE S.length r) (S ++ S'.map (sftO S.length))
  | .rt d S' => .rt (sft S.length d) (S ++ S'.map (sftO S.length))
  | .ex x r S' => .ex (sftX S.length x) (sftE S.length r) (S ++ S'.map (sftO S.length))
  | .bad => .bad
/-- the statements run on what of the names has no handle, in a store of their own -/
def frmS (m : Env → Sto → Out) : Env → Sto → Out := fun r S => shO S (m (keepR r) [])
/-- the same of a call -/
def frm (F : List D → M D) : List D → M D := fun ds S => if noLocs ds = true then shR S (F ds []) else F ds S
theorem hrep_nil {K : PySem.W.Frag} {H : Hp} : HRep K [] H [] := ⟨rfl, List.nodup_nil, fun n o b e => by simp at e⟩
theorem xrep_sft {K : PySem.W.Frag} {mu mu2 : List Addr} {H2 : Hp} {cls : Value} {dd : Option Addr} {x : Exn} (h : XRep K mu2 H2 cls dd x) : XRep K (mu ++ mu2) H2 cls dd (sftX mu.length x) := by
  obtain ⟨e, a, fs, h1, h2, h3⟩ := h
  exact ⟨e, a, fs, h1, h2, kreps_sft h3⟩
theorem sb_frame {X : Cx} {W : WX} {st : List Stmt} {m : Env → Sto → Out} (h : SB X W st m) : SB X W st (frmS m) := pssI h fun D σ H q => by
  obtain ⟨r, mu, S, hS, hE, hp⟩ := q
  refine ⟨keepR r, [], [], hrep_nil, erep_keep hE, ?_⟩
  unfold frmS at hp
  cases e : m (keepR r) [] with
  | nx r2 S2 =>
    rw [e] at hp
    intro mu2 H2 σ2 ex h2 he
    obtain ⟨E, h3⟩ := frame hS ex h2
    refine hp (mu ++ mu2) H2 σ2 E ?_ ?_ <;> rw [show S.length = mu.length from hS.len]
    · exact h3
    · exact erep_sft he
  | bk r2 S2 =>
    rw [e] at hp
    intro mu2 H2 σ2 ex h2 he
    obtain ⟨E, h3⟩ := frame hS ex h2
    refine hp (mu ++ mu2) H2 σ2 E ?_ ?_ <;> rw [show S.length = mu.length from hS.len]
    · exact h3
    · exact erep_sft he
  | ct r2 S2 =>
    rw [e] at hp
    intro mu2 H2 σ2 ex h2 he
    obtain ⟨E, h3⟩ := frame hS ex h2
    refine hp (mu ++ mu2) H2 σ2 E ?_ ?_ <;> rw [show S.length = mu.length from hS.len]
    · exact h3
    · exact erep_sft he
  | rt d S2 =>
    rw [e] at hp
    intro mu2 H2 v ex h2 rv
    obtain ⟨E, h3⟩ := frame hS ex h2
    refine hp (mu ++ mu2) H2 v E ?_ ?_ <;> rw [show S.length = mu.length from hS.len]
    · exact h3
    · exact rep_sft rv
  | ex x r2 S2 =>
    rw [e] at hp
    intro mu2 H2 σ2 cls dd ex h2 he hx
    obtain ⟨E, h3⟩ := frame hS ex h2
    refine hp (mu ++ mu2) H2 σ2 cls dd E ?_ ?_ ?_ <;> rw [show S.length = mu.length from hS.len]
    · exact h3
    · exact erep_sft he
    · exact xrep_sft hx
  | bad => rw [e] at hp; exact hp.elim
theorem prom_frm {K : PySem.W.Frag} {F : List D → M D} {vs : List V} {H : Hp} {Q : VK} {E : XK} (h : prom K (frm F) vs H Q E) : prom K F vs H Q E := by
  obtain ⟨ds, mu, S, hS, hr, hp⟩ := h
  unfold frm at hp
  by_cases n : noLocs ds = true
  · rw [if_pos n] at hp
    refine ⟨ds, [], [], hrep_nil, reps_noLoc n hr, ?_⟩
    cases e : F ds [] with
    | ok d S2 =>
      rw [e] at hp
      intro mu2 H2 ex h2 v rv
      obtain ⟨E, h3⟩ := frame hS ex h2
      refine hp (mu ++ mu2) H2 E ?_ v ?_ <;> rw [show S.length = mu.length from hS.len]
      · exact h3
      · exact rep_sft rv
    | err x S2 =>
      rw [e] at hp
      intro mu2 H2 cls dd ex h2 hx
      obtain ⟨E, h3⟩ := frame hS ex h2
      refine hp (mu ++ mu2) H2 cls dd E ?_ ?_ <;> rw [show S.length = mu.length from hS.len]
      · exact h3
      · exact xrep_sft hx
    | bad => rw [e] at hp; exact hp.elim
  · rw [if_neg n] at hp
    exact ⟨ds, mu, S, hS, hr, hp⟩
theorem fnG_frm {P : Program} {w : World} {K : PySem.W.Frag} {mg : Str → Option Value} {base : Heap} {k : Nat} {f : Addr} {fd : FuncData} {ps : List Str} {F : List D → M D} (G : FnG P w K mg base k f fd ps F) : FnG P w K mg base k f fd ps (frm F) :=
  fun A outer s H ar us vs Q E hr hg e0 hb rv hl hp => G A outer s H ar us vs Q E hr hg e0 hb rv hl (prom_frm hp)
theorem frm_arity {n : Nat} {F : List D → M D} (h : arity n F) : arity n (frm F) := fun ds S hl => by
  unfold frm
  by_cases z : noLocs ds = true
  · rw [if_pos z, h ds [] hl]
    rfl
  · rw [if_neg z, h ds S hl]
end Fa
namespace Fa
open PySem PySem.Spec PyProof.Rows L2
section
variable {K : PySem.W.Frag} {X : Cx}
/-! ### in, not in -/
def flat1 : D → Option V
  | .non => some .non
  | .bl b => some (.bl b)
  | .int i => some (.int i)
  | .str x => some (.str x)
  | _ => none
def flats : List D → Option (List V)
  | [] => some []
  | d :: ds => match flat1 d, flats ds with
    | some v, some vs => some (v :: vs)
    | _, _ => none
def itemsOf (S : Sto) : D → Option (List D)
  | .tup ds => some ds
  | .ktp ds => some ds
  | .rls ds => some ds
  | .loc n => match S[n]? with
    | some (.lst ds) => some ds
    | _ => none
  | _ => none
theorem flat1_of {mu : List Addr} {H : Hp} {d : D} {v w : V} (r : Rep K mu H v d) (h : flat1 d = some w) : v = w ∧ flatV w = true := by
  cases d <;> cases h <;> cases r <;> exact ⟨rfl, rfl⟩
theorem flats_of {mu : List Addr} {H : Hp} : ∀ {ds : List D} {vs ws : List V}, Reps K mu H vs ds → flats ds = some ws → vs = ws ∧ ws.all flatV = true
  | [], _, ws, .nil, h => by
    cases h
    exact ⟨rfl, rfl⟩
  | d :: ds, v :: vs, ws, .cons r t, h => by
    unfold flats at h
    cases e1 : flat1 d with
    | none => rw [e1] at h; cases h
    | some a =>
      cases e2 : flats ds with
      | none => rw [e1, e2] at h; cases h
      | some as =>
        rw [e1, e2] at h
        cases h
        obtain ⟨rfl, f1⟩ := flat1_of r e1
        obtain ⟨rfl, f2⟩ := flats_of t e2
        exact ⟨rfl, by rw [List.all_cons, f1, f2]; rfl⟩
theorem itemsOf_of {mu : List Addr} {H : Hp} {S : Sto} {d : D} {v : V} {ds : List D} (hS : HRep K mu H S) (r : Rep K mu H v d) (h : itemsOf S d = some ds) : ∃ p vs, v = .ref p ∧ (SqL K H p vs ∨ SqT K H p vs) ∧ Reps K mu H vs ds := by
  cases r with
  | tup _ hq hr => cases h; exact ⟨_, _, rfl, .inr (sqT_t hq), hr⟩
  | ktp hq hr => cases h; exact ⟨_, _, rfl, .inr (sqT_k hq), hr⟩
  | rls hq hr => cases h; exact ⟨_, _, rfl, .inl hq.sqL, hr⟩
  | loc hn =>
    obtain ⟨o, ho, q⟩ := hS.obj hn
    unfold itemsOf at h
    simp only [ho] at h
    cases o with
    | lst es =>
      cases h
      obtain ⟨vs, h1, hr⟩ := q
      exact ⟨_, _, rfl, .inl (.inl (.inl h1)), hr⟩
    | _ => cases h
  | _ => cases h
def sign1 (x : Str) : Option Nat := match x.cps.toList with
  | [c] => some c
  | _ => none
theorem sign1_of {x : Str} {c : Nat} (h : sign1 x = some c) : x = ⟨#[c]⟩ := by
  obtain ⟨⟨l⟩⟩ := x
  unfold sign1 at h
  split at h
  · rename_i e
    cases h
    have e' : l = [c] := e
    subst e'
    rfl
  · cases h
def inD (neg : Bool) : D → D → M D := fun x y S => match x, y with
  | .str i, .str j => match sign1 i with
    | some c => .ok (.bl (if neg then !decide (c ∈ j.cps.toList) else decide (c ∈ j.cps.toList))) S
    | none => .ok (.bl (if neg then !(!(Builtin.Str.occurrences j i 0 j.length 1).isEmpty) else !(Builtin.Str.occurrences j i 0 j.length 1).isEmpty)) S
  | x, y => match flat1 x, (itemsOf S y).bind flats with
    | some v, some vs => .ok (.bl (if neg then !inV v vs else inV v vs)) S
    | _, _ => match snap S 40 x, snap S 40 y with
      | some d, some (.list ds) => if (SeqAt.shaped d && SeqAt.shaped (.list ds)) = true then .ok (.bl (if neg then !(ds.any fun z => PyData.eqv z d) else ds.any fun z => PyData.eqv z d)) S else .bad
      | _, _ => .bad
def rInA (K : PySem.W.Frag) : R2 := fun x y H Q => (∃ (c : Nat) (z : Str), x = .str ⟨#[c]⟩ ∧ y = .str z ∧ Q (.bl (decide (c ∈ z.cps.toList))) H) ∨ (∃ i j, x = .str i ∧ y = .str j ∧ Q (.bl (!(Builtin.Str.occurrences j i 0 j.length 1).isEmpty)) H) ∨ rIn K false x y H Q ∨ rInD K x y H Q
def rNotInA (K : PySem.W.Frag) : R2 := fun x y H Q => (∃ (c : Nat) (z : Str), x = .str ⟨#[c]⟩ ∧ y = .str z ∧ Q (.bl (!decide (c ∈ z.cps.toList))) H) ∨ (∃ i j, x = .str i ∧ y = .str j ∧ Q (.bl (!(!(Builtin.Str.occurrences j i 0 j.length 1).isEmpty))) H) ∨ rIn K true x y H Q ∨ rNotInD K x y H Q
theorem op_inA (hu : X.A.units + 65 < cLine) : OpR X (compareOp .In) (rInA X.K) := op_in_sign.or (op_in_str.or (op_in_seq.or (op_inD hu)))
theorem op_notInA (hu : X.A.units + 65 < cLine) : OpR X (compareOp .NotIn) (rNotInA X.K) := op_notIn_sign.or (op_notIn_str.or (op_notIn_seq.or (op_notInD hu)))
theorem in_deep {W : WX} {σ : L2.St} {mu : List Addr} {H : Hp} {S : Sto} {x y : D} {v w : V} {Q : VK} {neg : Bool} (hS : HRep K mu H S) (rx : Rep K mu H v x) (ry : Rep K mu H w y)
    (hp : Post K W σ mu H (fun d _ mu' H' => ∀ u, Rep K mu' H' u d → Q u H') (match flat1 x, (itemsOf S y).bind flats with
    | some v, some vs => Res.ok (D.bl (if neg then !inV v vs else inV v vs)) S
    | _, _ => match snap S 40 x, snap S 40 y with
      | some d, some (.list ds) => if (SeqAt.shaped d && SeqAt.shaped (.list ds)) = true then .ok (.bl (if neg then !(ds.any fun z => PyData.eqv z d) else ds.any fun z => PyData.eqv z d)) S else .bad
      | _, _ => .bad)) : rIn K neg v w H Q ∨ ∃ d ds, Dp K H v d ∧ Dp K H w (.list ds) ∧ SeqAt.shaped d = true ∧ SeqAt.shaped (.list ds) = true ∧ Q (.bl (if neg then !(ds.any fun z => PyData.eqv z d) else ds.any fun z => PyData.eqv z d)) H := by
  have deep : Post K W σ mu H (fun d _ mu' H' => ∀ u, Rep K mu' H' u d → Q u H') (match snap S 40 x, snap S 40 y with
      | some d, some (.list ds) => if (SeqAt.shaped d && SeqAt.shaped (.list ds)) = true then .ok (.bl (if neg then !(ds.any fun z => PyData.eqv z d) else ds.any fun z => PyData.eqv z d)) S else .bad
      | _, _ => .bad) → ∃ d ds, Dp K H v d ∧ Dp K H w (.list ds) ∧ SeqAt.shaped d = true ∧ SeqAt.shaped (.list ds) = true ∧ Q (.bl (if neg then !(ds.any fun z => PyData.eqv z d) else ds.any fun z => PyData.eqv z d)) H := fun hp => by
    split at hp
    · rename_i d ds e1 e2
      by_cases h : (SeqAt.shaped d && SeqAt.shaped (.list ds)) = true
      · rw [if_pos h] at hp
        rw [Bool.and_eq_true] at h
        exact ⟨d, ds, snap_dp hS _ _ _ _ e1 rx, snap_dp hS _ _ _ _ e2 ry, h.1, h.2, hp mu H Ext.refl hS _ (.bl _)⟩
      · rw [if_neg h] at hp
        exact hp.elim
    · exact hp.elim
  split at hp
  · rename_i a as e1 e2
    obtain ⟨ds, e3, e4⟩ := Option.bind_eq_some_iff.mp e2
    obtain ⟨rfl, f1⟩ := flat1_of rx e1
    obtain ⟨p, vs, rfl, hq, hr⟩ := itemsOf_of hS ry e3
    obtain ⟨rfl, f2⟩ := flats_of hr e4
    exact .inl ⟨p, _, rfl, hq, f1, f2, hp mu H Ext.refl hS _ (.bl _)⟩
  · exact .inr (deep hp)
theorem o_in : Op2 K (rInA K) (inD false) := by
  intro W σ mu H S x y v w Q hS rx ry hp
  unfold inD at hp
  split at hp
  · rename_i i j
    cases rx
    cases ry
    cases e : sign1 i with
    | some c =>
      rw [e] at hp
      obtain rfl := sign1_of e
      exact .inl ⟨c, j, rfl, rfl, hp mu H Ext.refl hS _ (.bl _)⟩
    | none =>
      rw [e] at hp
      exact .inr (.inl ⟨i, j, rfl, rfl, hp mu H Ext.refl hS _ (.bl _)⟩)
  · exact .inr (.inr (in_deep (neg := false) hS rx ry hp))
theorem o_notIn : Op2 K (rNotInA K) (inD true) := by
  intro W σ mu H S x y v w Q hS rx ry hp
  unfold inD at hp
  split at hp
  · rename_i i j
    cases rx
    cases ry
    cases e : sign1 i with
    | some c =>
      rw [e] at hp
      obtain rfl := sign1_of e
      exact .inl ⟨c, j, rfl, rfl, hp mu H Ext.refl hS _ (.bl _)⟩
    | none =>
      rw [e] at hp
      exact .inr (.inl ⟨i, j, rfl, rfl, hp mu H Ext.refl hS _ (.bl _)⟩)
  · exact .inr (.inr (in_deep (neg := true) hS rx ry hp))
/-! ### is, is not of truths -/
def isB (neg : Bool) : D → D → M D
  | .bl a, .bl b => ret (.bl (if neg then !decide (a = b) else decide (a = b)))
  | _, _ => fail
theorem o_isB : Op2 K rIsB (isB false) := by
  intro W σ mu H S x y v w Q hS rx ry hp
  cases rx <;> cases ry <;> first | exact hp.elim | exact ⟨_, _, rfl, rfl, hp mu H Ext.refl hS _ (.bl _)⟩
theorem o_notB : Op2 K rNotB (isB true) := by
  intro W σ mu H S x y v w Q hS rx ry hp
  cases rx <;> cases ry <;> first | exact hp.elim | exact ⟨_, _, rfl, rfl, hp mu H Ext.refl hS _ (.bl _)⟩
/-! ### a < b < c -/
def mChain (f g : D → D → M D) (a b c : Env → M D) : Env → M D := fun r => bnd (a r) fun x => bnd (b r) fun y => bnd (f x y) fun z => bnd (isBl z) fun k => if k = true then bnd (c r) fun w => g y w else ret (.bl false)
theorem chain_go {W : WX} {f g : D → D → M D} {r r' : R2} {ma mb mc : Env → M D} (ho : Op2 X.K r f) (ho' : Op2 X.K r' g) {σ : L2.St} {H : Hp} {Q : VK} (q : rdE X.K W (mChain f g ma mb mc) σ H Q) : tChain r r' (rdE X.K W ma) (rdE X.K W mb) (rdE X.K W mc) σ H Q := by
  obtain ⟨r, mu, S, hS, he, hp⟩ := q
  refine ⟨r, mu, S, hS, he, hp.bnd.imp fun x S1 mu1 H1 ex hS1 q1 v rv => ?_⟩
  refine ⟨r, mu1, S1, hS1, he.mono ex, q1.bnd.imp fun y S2 mu2 H2 ex2 hS2 q2 w rw => ?_⟩
  refine ho W σ mu2 H2 S2 x y v w _ hS2 (rv.mono ex2) rw (q2.bnd.imp fun z S3 mu3 H3 ex3 hS3 q3 u ru => ?_)
  cases ru with
  | bl k =>
    refine ⟨k, rfl, ?_⟩
    have q4 : Post X.K W σ mu3 H3 _ ((if k = true then bnd (mc r) fun w => g y w else ret (.bl false)) S3) := q3.bnd mu3 H3 Ext.refl hS3
    cases k with
    | true =>
      rw [if_pos rfl] at q4
      rw [if_pos rfl]
      refine ⟨r, mu3, S3, hS3, ((he.mono ex).mono ex2).mono ex3, q4.bnd.imp fun c S4 mu4 H4 ex4 hS4 q5 t rt => ?_⟩
      exact ho' W σ mu4 H4 S4 y c w t Q hS4 ((rw.mono ex3).mono ex4) rt q5
    | false =>
      rw [if_neg Bool.false_ne_true] at q4
      rw [if_neg Bool.false_ne_true]
      exact q4 mu3 H3 Ext.refl hS3 _ (.bl _)
  | _ => exact (q3.bnd).elim
theorem se_chain {W : WX} {a b c : Expr} {pos : Pos} {op op' : CmpOp} {f g : D → D → M D} {r r' : R2} {ma mb mc : Env → M D} (h : OpR X (compareOp op) r) (ho : Op2 X.K r f) (h' : OpR X (compareOp op') r') (ho' : Op2 X.K r' g) (ha : SE X W a ma) (hb : SE X W b mb) (hc : SE X W c mc)
    (hm : lastMarks [op, op'] [b, c] = false := by with_unfolding_all rfl) : SE X W (.Compare a [op, op'] [b, c] pos) (mChain f g ma mb mc) := peI (pe_chain h h' ha hb hc hm) fun σ H Q q => chain_go ho ho' q
theorem st_chain {W : WX} {a b c : Expr} {pos : Pos} {op op' : CmpOp} {f g : D → D → M D} {r r' : R2} {ma mb mc : Env → M D} (h : OpR X (compareOp op) r) (ho : Op2 X.K r f) (h' : OpR X (compareOp op') r') (ho' : Op2 X.K r' g) (ha : SE X W a ma) (hb : SE X W b mb) (hc : SE X W c mc)
    (hm : lastMarks [op, op'] [b, c] = false := by with_unfolding_all rfl) : ST X W (.Compare a [op, op'] [b, c] pos) (tOf (mChain f g ma mb mc)) := ptI (pt_chain h h' ha hb hc hm) fun σ H Q q => chain_go ho ho' (by
  obtain ⟨r, mu, S, hS, he, hp⟩ := q
  refine ⟨r, mu, S, hS, he, hp.bnd.imp fun d S1 mu1 H1 ex hS1 q1 v rv => ?_⟩
  cases rv <;> first | exact q1.elim | skip
  exact ⟨_, rfl, q1 mu1 H1 Ext.refl hS1⟩)
/-! ### slices -/
def cutD (xs : List D) (lo hi : Option Int) : List D := (xs.drop (HT.sIx xs.length 0 lo)).take (HT.sIx xs.length xs.length hi - HT.sIx xs.length 0 lo)
theorem cut_reps {mu : List Addr} {H : Hp} {vs : List V} {ds : List D} (lo hi : Option Int) (r : Reps K mu H vs ds) : Reps K mu H (cutV vs lo hi) (cutD ds lo hi) := by
  unfold cutV cutD
  rw [r.length]
  exact (r.drop _).take _
def slD : D → Option Int → Option Int → M D := fun x lo hi S => match x with
  | .tup ds => .ok (.tup (cutD ds lo hi)) S
  | .str z => if z.length ≤ sizeLine then .ok (.str (cutS z lo hi)) S else .bad
  | .rls ds => .ok (.loc S.length) (S ++ [.lst (cutD ds lo hi)])
  | .loc n => match S[n]? with
    | some (.lst ds) => .ok (.loc S.length) (S ++ [.lst (cutD ds lo hi)])
    | _ => .bad
  | _ => .bad
def rSlAll (K : PySem.W.Frag) : V → Option Int → Option Int → Hp → VK → Prop := fun x lo hi H Q => rSlF K x lo hi H Q ∨ (rSlS x lo hi H Q ∨ rSlL K x lo hi H Q)
theorem sl_all : SlR X (rSlAll X.K) := sl_tupF.or (sl_str.or sl_list)
theorem cut_whole {xs : List D} {lo hi : Option Int} (h1 : HT.sIx xs.length 0 lo = 0) (h2 : HT.sIx xs.length xs.length hi = xs.length) : cutD xs lo hi = xs := by
  unfold cutD
  rw [h1, h2]
  simp
def mSl (a : Env → M D) (lo hi : Env → M (Option Int)) : Env → M D := fun r => bnd (a r) fun x => bnd (lo r) fun l => bnd (hi r) fun u => slD x l u
def rdP (K : PySem.W.Frag) (W : WX) (m : Env → M (Option Int)) : TO := fun σ H Q => ∃ r mu S, HRep K mu H S ∧ ERep K mu H σ r ∧ Post K W σ mu H (fun o _ _ H' => Q o H') (m r S)
def mP0 : Env → M (Option Int) := fun _ => ret none
def intO : D → M (Option Int)
  | .int i => ret (some i)
  | _ => fail
def mP (a : Env → M D) : Env → M (Option Int) := fun r => bnd (a r) intO
abbrev SP (X : Cx) (W : WX) (e : Option Expr) (m : Env → M (Option Int)) : Prop := PO X e (rdP X.K W m)
theorem sp_none {W : WX} : SP X W none mP0 := ⟨fun p s σ H Q I q => po_none.run p s σ H Q I (by
  obtain ⟨r, mu, S, hS, he, hp⟩ := q
  exact hp mu H Ext.refl hS)⟩
theorem sp_some {W : WX} {e : Expr} {m : Env → M D} (h : SE X W e m) : SP X W (some e) (mP m) := ⟨fun p s σ H Q I q => (po_some h).run p s σ H Q I (by
  obtain ⟨r, mu, S, hS, he, hp⟩ := q
  refine ⟨r, mu, S, hS, he, hp.bnd.imp fun d S1 mu1 H1 ex hS1 q1 v rv => ?_⟩
  cases rv <;> first | exact q1.elim | skip
  exact ⟨_, rfl, q1 mu1 H1 Ext.refl hS1⟩)⟩
theorem se_slice {W : WX} {e : Expr} {lo hi : Option Expr} {m : Env → M D} {l u : Env → M (Option Int)} {p2 pos : Pos} (he : SE X W e m) (hl : SP X W lo l) (hu : SP X W hi u) : SE X W (.Subscript e (.Slice lo hi none p2) pos) (mSl m l u) := peI (pe_slice sl_all he hl hu) fun σ H Q q => by
  obtain ⟨r, mu, S, hS, he, hp⟩ := q
  refine ⟨r, mu, S, hS, he, hp.bnd.imp fun x S1 mu1 H1 ex hS1 q1 v rv => ?_⟩
  refine ⟨r, mu1, S1, hS1, he.mono ex, q1.bnd.imp fun a S2 mu2 H2 ex2 hS2 q2 => ?_⟩
  refine ⟨r, mu2, S2, hS2, (he.mono ex).mono ex2, q2.bnd.imp fun b S3 mu3 H3 ex3 hS3 q3 => ?_⟩
  have rv := (rv.mono ex2).mono ex3
  cases rv with
  | tup hd hq hr =>
    rename_i ad vs ds o
    refine .inl ⟨ad, vs, rfl, sqT_t hq, fun hw => ?_, fun hw p o0 hp0 hd0 => ?_⟩
    · rw [hr.length] at hw
      refine q3 mu3 H3 Ext.refl hS3 _ ?_
      rw [cut_whole hw.1 hw.2]
      exact .tup hd hq hr
    · exact q3 mu3 _ (ext_tup hp0) (hS3.tup hp0) _ (.tup hd0 upd_same ((cut_reps a b hr).mono (ext_tup hp0)))
  | str z =>
    have q4 : Post X.K W σ mu3 H3 _ (if z.length ≤ sizeLine then Res.ok (D.str (cutS z a b)) S3 else .bad) := q3
    by_cases h : z.length ≤ sizeLine
    · rw [if_pos h] at q4
      exact .inr (.inl ⟨z, rfl, h, q4 mu3 H3 Ext.refl hS3 _ (.str _)⟩)
    · rw [if_neg h] at q4
      exact q4.elim
  | rls hq hr =>
    refine .inr (.inr ⟨_, _, rfl, hq.sqL, fun p hp0 => ?_⟩)
    refine q3 _ _ (ext_new hp0) (hS3.new (o := .lst _) hp0 ⟨_, upd_same, (cut_reps a b hr).mono (ext_new hp0)⟩) _ (.loc ?_)
    rw [hS3.len]
    simp
  | loc hn =>
    obtain ⟨o, ho, qq⟩ := hS3.obj hn
    unfold slD at q3
    simp only [ho] at q3
    cases o with
    | lst ds =>
      obtain ⟨vs, h1, hr⟩ := qq
      refine .inr (.inr ⟨_, _, rfl, .inl (.inl h1), fun p hp0 => ?_⟩)
      refine q3 _ _ (ext_new hp0) (hS3.new (o := .lst _) hp0 ⟨_, upd_same, (cut_reps a b hr).mono (ext_new hp0)⟩) _ (.loc ?_)
      rw [hS3.len]
      simp
    | _ => exact q3.elim
  | _ => exact q3.elim
end
end Fa
namespace Fa
open PySem PySem.Spec PyProof.Rows L2
section
variable {K : PySem.W.Frag} {X : Cx}
/-! ### tuple(x), list(x) -/
def tupleD : List D → M D
  | [x] => fun S => match x with
    | .tup ds => .ok (.tup ds) S
    | .ktp ds => .ok (.ktp ds) S
    | x => match itemsOf S x with
      | some ds => .ok (.tup ds) S
      | none => .bad
  | _ => fail
def listD : List D → M D
  | [x] => fun S => match itemsOf S x with
    | some ds => .ok (.loc S.length) (S ++ [.lst ds])
    | none => .bad
  | _ => fail
def rListOf (K : PySem.W.Frag) : List V → Hp → VK → Prop := fun xs H Q => ∃ p ys, xs = [.ref p] ∧ (SqL K H p ys ∨ SqT K H p ys) ∧ ∀ l, H l = none → Q (.ref l) (upd H l (.lst ys))
theorem c_tuple : CallR X (.type "tuple") (rTupleF X.K) := call_tupleF
theorem c_list : CallR X (.type "list") (rListOf X.K) := call_list_of
theorem o_tuple : OpN K (rTupleF K) tupleD := by
  intro W σ mu H S xs vs Q hS hr hp
  unfold tupleD at hp
  split at hp
  · rename_i x
    obtain ⟨v, rfl, rv⟩ := one_of hr
    cases rv with
    | tup hd hq h2 => exact ⟨_, _, rfl, .inr ⟨sqT_t hq, hp mu H Ext.refl hS _ (.tup hd hq h2)⟩⟩
    | ktp hq h2 => exact ⟨_, _, rfl, .inr ⟨sqT_k hq, hp mu H Ext.refl hS _ (.ktp hq h2)⟩⟩
    | rls hq h2 => exact ⟨_, _, rfl, .inl ⟨hq.sqL, fun l o hl hd => hp mu _ (ext_tup hl) (hS.tup hl) _ (.tup hd upd_same (h2.mono (ext_tup hl)))⟩⟩
    | loc hn =>
      obtain ⟨o, ho, q⟩ := hS.obj hn
      simp only [itemsOf, ho] at hp
      cases o with
      | lst ds =>
        obtain ⟨us, h1, hr⟩ := q
        exact ⟨_, _, rfl, .inl ⟨.inl (.inl h1), fun l o hl hd => hp mu _ (ext_tup hl) (hS.tup hl) _ (.tup hd upd_same (hr.mono (ext_tup hl)))⟩⟩
      | _ => exact hp.elim
    | _ => exact hp.elim
  · exact hp.elim
theorem o_list : OpN K (rListOf K) listD := by
  intro W σ mu H S xs vs Q hS hr hp
  unfold listD at hp
  split at hp
  · rename_i x
    obtain ⟨v, rfl, rv⟩ := one_of hr
    cases e : itemsOf S x with
    | none => rw [e] at hp; exact hp.elim
    | some ds =>
      rw [e] at hp
      obtain ⟨p, ys, rfl, hq, hr⟩ := itemsOf_of hS rv e
      refine ⟨p, ys, rfl, hq, fun l hl => ?_⟩
      refine hp _ _ (ext_new hl) (hS.new (o := .lst ds) hl ⟨_, upd_same, hr.mono (ext_new hl)⟩) _ (.loc ?_)
      rw [hS.len]
      simp
  · exact hp.elim
/-! ### tuple * int, int * int -/
def mulA : D → D → M D
  | .tup ds, .int k => if (!ds.isEmpty && decide (2 ≤ k) && decide (k ≤ 1000) && decide (ds.length ≤ 1000)) = true then ret (.tup (List.replicate k.toNat ds).flatten) else fail
  | x, y => mulD x y
theorem reps_rep {mu : List Addr} {H : Hp} {vs : List V} {ds : List D} (r : Reps K mu H vs ds) : ∀ n : Nat, Reps K mu H (List.replicate n vs).flatten (List.replicate n ds).flatten
  | 0 => .nil
  | n + 1 => by
    rw [List.replicate_succ, List.replicate_succ, List.flatten_cons, List.flatten_cons]
    exact r.append (reps_rep r n)
theorem o_mulA : Op2 K (fun x y H Q => rI CMul (fun i j => .int (i * j)) x y H Q ∨ rRepF K x y H Q) mulA := by
  intro W σ mu H S x y v w Q hS rx ry hp
  unfold mulA at hp
  split at hp
  · rename_i ds k
    cases ry
    cases rx with
    | tup _ hq hr =>
      by_cases h : (!ds.isEmpty && decide (2 ≤ k) && decide (k ≤ 1000) && decide (ds.length ≤ 1000)) = true
      · rw [if_pos h] at hp
        simp only [Bool.and_eq_true, decide_eq_true_eq, Bool.not_eq_true'] at h
        obtain ⟨⟨⟨h1, h2⟩, h3⟩, h4⟩ := h
        refine .inr ⟨_, k, _, rfl, rfl, sqT_t hq, fun z => ?_, h2, h3, by rw [hr.length]; exact h4, fun p o hp0 hd => ?_⟩
        · subst z
          cases hr
          simp at h1
        · exact hp mu _ (ext_tup hp0) (hS.tup hp0) _ (.tup hd upd_same ((reps_rep hr _).mono (ext_tup hp0)))
      · rw [if_neg h] at hp
        exact hp.elim
  · exact .inl (o_mul W σ mu H S x y v w Q hS rx ry hp)
theorem op_mulAll : OpR X (binaryOp .Mult) (fun x y H Q => rI CMul (fun i j => .int (i * j)) x y H Q ∨ rRepF X.K x y H Q) := op_mul.or op_repF
/-! ### a constant tuple's index -/
def strsOf : List D → Option (List Str)
  | [] => some []
  | .str x :: ds => (strsOf ds).map (x :: ·)
  | _ :: _ => none
def seek (z : Str) : List Str → Option Nat
  | [] => none
  | y :: ys => if y = z then some 0 else (seek z ys).map (· + 1)
theorem seek_of {z : Str} : ∀ {ys : List Str} {j : Nat}, seek z ys = some j → ys[j]? = some z ∧ ∀ m, m < j → ys[m]? ≠ some z
  | [], _, h => by cases h
  | y :: ys, j, h => by
    unfold seek at h
    by_cases e : y = z
    · rw [if_pos e] at h
      cases h
      subst e
      exact ⟨rfl, fun m hm => absurd hm (Nat.not_lt_zero m)⟩
    · rw [if_neg e] at h
      obtain ⟨j', e1, e2⟩ := map_some h
      subst e2
      obtain ⟨h1, h2⟩ := seek_of e1
      refine ⟨by simpa using h1, fun m hm => ?_⟩
      cases m with
      | zero => simpa using e
      | succ m => simpa using h2 m (by omega)
theorem strsOf_of {mu : List Addr} {H : Hp} : ∀ {ds : List D} {vs : List V} {ys : List Str}, strsOf ds = some ys → Reps K mu H vs ds → vs = ys.map V.str := by
  intro ds
  induction ds with
  | nil =>
    intro vs ys e r
    cases r
    cases e
    rfl
  | cons d ds ih =>
    intro vs ys e r
    cases r with
    | cons h t =>
      cases d with
      | str i =>
        cases h
        obtain ⟨ps, e1, e2⟩ := map_some e
        subst e2
        rw [ih e1 t]
        rfl
      | _ => cases e
def idxD : D → List D → M D := fun x xs => match x, xs with
  | .ktp ds, [.str z] => match (strsOf ds).bind (seek z) with
    | some j => ret (.int j)
    | none => fail
  | _, _ => fail
def mKM (f : D → List D → M D) (o : Env → M D) (a : Env → M (List D)) : Env → M D := fun r => bnd (o r) fun x => match x with
  | .ktp _ => bnd (a r) fun xs => f x xs
  | _ => fail
def rTIndex (K : PySem.W.Frag) : V → List V → Hp → VK → Prop := fun x xs H Q => ∃ p, ∃ ys : List Str, ∃ z j, x = .ref p ∧ xs = [.str z] ∧ SqT K H p (ys.map V.str) ∧ ys[j]? = some z ∧ (∀ m, m < j → ys[m]? ≠ some z) ∧ Q (.int (j : Nat)) H
theorem o_idx : OpM K (rTIndex K) idxD := by
  intro W σ mu H S x xs v vs Q hS rv rs hp
  unfold idxD at hp
  split at hp
  · rename_i ds z
    obtain ⟨w, rfl, rw⟩ := one_of rs
    cases rw
    cases rv with
    | ktp hq hr =>
      cases e : (strsOf ds).bind (seek z) with
      | none => rw [e] at hp; exact hp.elim
      | some j =>
        rw [e] at hp
        obtain ⟨ys, e1, e2⟩ := Option.bind_eq_some_iff.mp e
        obtain ⟨h1, h2⟩ := seek_of e2
        exact ⟨_, ys, z, j, rfl, rfl, by rw [← strsOf_of e1 hr]; exact sqT_k hq, h1, h2, hp mu H Ext.refl hS _ (.int _)⟩
  · exact hp.elim
theorem se_km {W : WX} {name : Str} {r : V → List V → Hp → VK → Prop} {f : D → List D → M D} {o e : Expr} {es : List Expr} {mo : Env → M D} {ms : Env → M (List D)} {pos apos : Pos} (hf : OpM X.K r f) (ho : SE X W o mo) (ha : SA X W (e :: es) ms)
    (base : ∀ {to : TE} {t : TA}, PE X o to → PA X (e :: es) t → PE X (.Call (.Attribute o name apos) (e :: es) [] pos) (tBM X.K "tuple" r to t)) : SE X W (.Call (.Attribute o name apos) (e :: es) [] pos) (mKM f mo ms) := peI (base ho ha) fun σ H Q q => by
  obtain ⟨r, mu, S, hS, he, hp⟩ := q
  refine ⟨r, mu, S, hS, he, hp.bnd.imp fun x S1 mu1 H1 ex hS1 q1 v rv => ?_⟩
  cases x with
  | ktp ds =>
    have q2 : Post X.K W σ mu1 H1 _ (bnd (ms r) (fun xs => f (.ktp ds) xs) S1) := q1
    cases rv with
    | ktp hq hr =>
      obtain ⟨o, its, n, h1, h2, h3, _⟩ := id hq
      refine ⟨.inr (.inl ⟨rfl, o, h1, h2, h3⟩), r, mu1, S1, hS1, he.mono ex, q2.bnd.imp fun y S2 mu2 H2 ex2 hS2 q3 w rw => ?_⟩
      exact hf W σ mu2 H2 S2 _ _ _ _ Q hS2 (.ktp hq (hr.mono ex2)) rw q3
  | _ => exact q1.elim
/-! ### a constant dict's get -/
def EntK : List DictEntry → List (Str × V) → Prop
  | [], [] => True
  | e :: es, p :: ps => (∃ t, e.key = .str p.1 t) ∧ RelV p.2 e.val ∧ EntK es ps
  | _, _ => False
structure KD (K : PySem.W.Frag) (w : World) (d : Addr) (kvs : List (Str × V)) : Prop where
  ex : ∃ es n, KDict K w d es n ∧ EntK es.toList kvs
theorem entK_find {z : Str} : ∀ {es : List DictEntry} {ps : List (Str × V)}, EntK es ps → RelO (ps.lookup z) ((es.find? fun e => Value.isStrOf z e.key).map (·.val))
  | [], [], _ => True.intro
  | e :: es, p :: ps, h => by
    obtain ⟨⟨t, h1⟩, h2, h3⟩ := h
    rw [List.lookup_cons, List.find?_cons, h1]
    by_cases q : z = p.1
    · have e1 : (z == p.1) = true := by simpa using q
      have e2 : Value.isStrOf z (Value.str p.1 t) = true := by
        subst q
        simp [Value.isStrOf]
      rw [e1, e2]
      exact h2
    · have e1 : (z == p.1) = false := by simpa using q
      have e2 : Value.isStrOf z (Value.str p.1 t) = false := by
        simp [Value.isStrOf]
        exact fun y => q y.symm
      rw [e1, e2]
      exact entK_find h3
def kget (kvs : List (Str × D)) : List D → M D
  | [.str z, d] => ret ((kvs.lookup z).getD d)
  | _ => fail
/-- the constants' values as data -/
def KFlat : List (Str × V) → List (Str × D) → Prop := Paired fun p q => p.1 = q.1 ∧ ∀ K mu H, Rep K mu H p.2 q.2
theorem kflat_lookup {z : Str} : ∀ {ps : List (Str × V)} {ds : List (Str × D)}, KFlat ps ds → (ps.lookup z = none ∧ ds.lookup z = none) ∨ ∃ v d, ps.lookup z = some v ∧ ds.lookup z = some d ∧ ∀ K mu H, Rep K mu H v d
  | [], [], .nil => .inl ⟨rfl, rfl⟩
  | (a, v) :: ps, (b, d) :: ds, .cons h t => by
    obtain ⟨h1, h2⟩ := h
    have h1 : a = b := h1
    subst h1
    rw [List.lookup_cons, List.lookup_cons]
    cases e : z == a with
    | true => exact .inr ⟨v, d, rfl, rfl, h2⟩
    | false => exact kflat_lookup t
theorem se_kget {W : WX} {x : Str} {p apos cpos : Pos} {e f : Expr} {me mf : Env → M D} {a : Addr} {ps : List (Str × V)} {kvs : List (Str × D)} (hg : Gl X x) (hm : X.mg x = some (.ref a)) (kd : KD X.K X.w a ps) (kf : KFlat ps kvs) (he : SE X W e me) (hf : SE X W f mf)
    (m : M2 X (.Name x p) "get" apos e f cpos) (hdb : (x == ("__debug__" : Str)) = false := by decide) : SE X W (.Call (.Attribute (.Name x p) "get" apos) [e, f] [] cpos) (mA (kget kvs) (mCons me (mCons mf mNil))) := by
  constructor
  intro pins s σ H Q I q
  obtain ⟨r, mu, S, hS, hE, hp⟩ := q
  obtain ⟨es, n, kD, ek⟩ := kd.ex
  refine wpAny_Call_method m.base m.few m.line PySem.F.plainAttrs_dict PySem.F.slot_dict_get PySem.F.type_dict_get (ld_glob I hg hm ?_ hdb)
  refine ⟨kd_type kD I, fun b z => ?_, ?_⟩
  · cases z
    exact ⟨_, I.kIn _ _ kD.at_, rfl⟩
  rw [m.trees]
  have hp1 := (show Post X.K W σ mu H _ (bnd (mCons me (mCons mf mNil) r) (kget kvs) S) from hp).bnd
  have hp2 := (show Post X.K W σ mu H _ (bnd (me r) (fun x => bnd (mCons mf mNil r) fun xs => ret (x :: xs)) S) from hp1).bnd
  refine Calls.callWith_builtin rfl (Calls.evalArgs_plain (Calls.spliced_cons (thn (he.run pins s σ H (fun v H1 => ∃ mu1 S1 d, HRep X.K mu1 H1 S1 ∧ Ext mu H mu1 H1 ∧ Rep X.K mu1 H1 v d ∧ Post X.K W σ mu1 H1 (fun ds S' mu' H' => Post X.K W σ mu' H' (fun d _ mu' H' => ∀ v, Rep X.K mu' H' v d → Q v H') (kget kvs ds S')) (bnd (mCons mf mNil r) (fun xs => ret (d :: xs)) S1)) I ⟨r, mu, S, hS, hE, hp2.imp fun d S1 mu1 H1 ex hS1 q1 v rv => ⟨mu1, S1, d, hS1, ex, rv, q1⟩⟩) fun iv s2 z => ?_)))
  obtain ⟨v, H1, I1, rv, mu1, S1, d, hS1, ex1, rd, q1⟩ := z
  have q2 := (show Post X.K W σ mu1 H1 _ (bnd (mf r) (fun x => bnd (mNil r) fun xs => ret (x :: xs)) S1) from q1.bnd).bnd
  refine Calls.spliced_cons (thn (hf.run pins s2 σ H1 (fun v2 H2 => ∃ mu2 S2 d2, HRep X.K mu2 H2 S2 ∧ Ext mu1 H1 mu2 H2 ∧ Rep X.K mu2 H2 v2 d2 ∧ Post X.K W σ mu2 H2 (fun d _ mu' H' => ∀ v, Rep X.K mu' H' v d → Q v H') (kget kvs [d, d2] S2)) I1 ⟨r, mu1, S1, hS1, hE.mono ex1, q2.imp fun d2 S2 mu2 H2 ex hS2 q3 v rv => ⟨mu2, S2, d2, hS2, ex, rv, ?_⟩⟩) fun fv s3 z2 => Calls.spliced_nil ?_)
  · have q4 := (show Post X.K W σ mu2 H2 _ (bnd (ret ([] : List D)) (fun xs => ret (d2 :: xs)) S2) from q3).bnd mu2 H2 Ext.refl hS2
    have q5 := q4 mu2 H2 Ext.refl hS2
    exact q5 mu2 H2 Ext.refl hS2
  · obtain ⟨v2, H2, I2, rv2, mu2, S2, d2, hS2, ex2, rd2, q3⟩ := z2
    have rd' := rd.mono ex2
    cases d with
    | str zz =>
      cases rd'
      obtain ⟨t, rfl⟩ := rv
      have hmap := PySem.W.mapOf_K (prog := X.prog) (w := X.w) I2.kIn kD.at_ kD.lit
      refine call_meetsIn PySem.F.slot_dict_get hmap.typeIs PySem.F.entry_dict_get (PySem.F.args_dict_get_3 _ _ _) (meets_dict_get_default (strKind X.prog X.w) a (PySem.strKind_is X.prog X.w zz t) kD.low fv) ⟨_, hmap, ?_⟩
      have fe : findBy Value.isStrOf es zz = (es.toList.find? fun e => Value.isStrOf zz e.key).map (·.val) := by
        obtain ⟨l⟩ := es
        unfold findBy
        simp
      have rl := entK_find (z := zz) ek
      rw [← fe] at rl
      have q4 : Post X.K W σ mu2 H2 _ (ret ((kvs.lookup zz).getD d2) S2) := q3
      rcases kflat_lookup (z := zz) kf with ⟨e1, e2⟩ | ⟨v0, d0, e1, e2, rep⟩
      · rw [e1] at rl
        have en : findBy Value.isStrOf es zz = none := by
          cases h : findBy Value.isStrOf es zz with
          | none => rfl
          | some u => rw [h] at rl; exact rl.elim
        rw [en]
        rw [e2] at q4
        exact ⟨v2, H2, I2.tok _, rv2, q4 mu2 H2 Ext.refl hS2 _ rd2⟩
      · rw [e1] at rl
        cases h : findBy Value.isStrOf es zz with
        | none => rw [h] at rl; exact rl.elim
        | some u =>
          rw [h] at rl
          rw [e2] at q4
          exact ⟨v0, H2, I2.tok _, rl, q4 mu2 H2 Ext.refl hS2 _ (rep _ _ _)⟩
    | _ => exact q3.elim
end
end Fa
namespace Fa
open PySem PySem.Spec PyProof.Rows L2
/-! ### dict comprehensions: keys ints and texts, or tuples of them (tk) -/
def dct0 (tk : Bool) : HO := if tk = true then .dT [] else .dK []
/-- d[k] = v by a comprehension, any keys -/
theorem set_put {X : Cx} {pins : List (Addr × Obj)} {σ : L2.St} {H H' : Hp} {s : Shared} {E : Value → Shared → Prop} {a : Addr} {y v : V} {u r : Value} {Q : Unit → Shared → Prop} (hu : X.A.units + 1 < cLine) (I : Inv X pins σ H s) (g : DPut H a y v H') (ry : RelV y u) (rv : RelV v r)
    (h : ∀ s', Inv X pins σ H' s' → Q () s') : wpAny (model X.prog X.w) X.A (dictSet a u r) Q E s := by
  rcases g with ⟨kvs, k, e, ey, l, eH⟩ | ⟨kvs, k, b, e, ey, eb, l, eH⟩
  · subst ey eH
    exact d_dictSet I e l ry rv h
  · subst ey eH
    cases (show u = Value.ref b from ry)
    obtain ⟨z, hd, xs, rel, dd⟩ := dt_of I.hok e
    have hz : xs.length ≤ sizeLine := by rw [← Paired.length rel]; exact z
    have hl : (putK kvs k v).length ≤ sizeLine := by have := length_putK kvs k v; omega
    refine wpAny_dictSet_heap (hsz := hz) (show X.A.units < cLine by omega) (key_of I.hok eb) dd fun h' dd' hs => h _ ?_
    obtain ⟨q, es, ep, hq, h2, h3, h4, _, h5⟩ := dd'
    refine d_write I (by rw [e]; exact True.intro) hs ⟨q, hq⟩ ⟨hl, hd, _, (rel.put k eb rv).keeps fun c ys ec => ?_, q, es, ep, hq, h2, h3, h4, h5⟩
    rw [upd_ne (ne_of ec e (fun z => nomatch z))]
    exact ec
def tDcP (o0 : HO) (wi : TI) (g : TG) (tt : TT) (tk tv : TE) (vs : List Nat) : TE := fun σ H Q => wi σ H fun J H1 => ∀ D, H1 D = none → ∃ W : Nat → Nat → Hp → Prop, (∃ m, W 0 m (upd H1 D o0)) ∧ ∀ i m H, W i m H →
  (J.stop i H ∧ Q (.ref D) H) ∨ (J.go i H ∧ ∃ Nx : Hp → Prop, (∀ H', Nx H' → ∃ m', m' < m ∧ W (i + 1) m' H') ∧ ∀ x H', J.yld i H x H' → g x (wipe σ vs) H' fun σ2 H2 => wipe σ2 vs = wipe σ vs ∧ tt σ2 H2 fun b H3 =>
    if b = true then tk σ2 H3 fun y H4 => tv σ2 H4 fun z H5 => ∃ H6, DPut H5 D y z H6 ∧ Nx H6 else Nx H3)
section
variable {X : Cx}
theorem pe_dcP {kx vx tg iter : Expr} {ifs : List Expr} {scope : Scope} {own : List (Str × Nat)} {pos : Pos} {wi : TI} {g : TG} {tt : TT} {tk tv : TE} {tb : Bool} (hu : X.A.units + 1 < cLine) (hc : X.calm = true) (hN : X.N.Nodup) (hi : PI X tg iter wi) (ok : BlkOk X.N X.env.scope scope own)
    (hg : ∀ (s : Shared) (H : Hp) (C : Addr) (cl : List (Str × Addr)) (fp : List Addr), PG (X.blk s H scope (compEnvC scope cl C X.env) fp) tg g) (ht : ∀ (s : Shared) (H : Hp) (C : Addr) (cl : List (Str × Addr)) (fp : List Addr), PTs (X.blk s H scope (compEnvC scope cl C X.env) fp) ifs tt)
    (hk : ∀ (s : Shared) (H : Hp) (C : Addr) (cl : List (Str × Addr)) (fp : List Addr), PE (X.blk s H scope (compEnvC scope cl C X.env) fp) kx tk)
    (he : ∀ (s : Shared) (H : Hp) (C : Addr) (cl : List (Str × Addr)) (fp : List Addr), PE (X.blk s H scope (compEnvC scope cl C X.env) fp) vx tv) (hs : ∀ x, foldedSetIterable iter X.env x = pure x := by intro _; rfl) :
    PE X (.DictComp kx vx [⟨tg, iter, ifs, 0⟩] scope pos) (tDcP (dct0 tb) wi g tt tk tv (own.map (·.2))) := by
  constructor
  intro pins s σ H Q I h
  rw [arm_eval_DictComp]
  have hfree : ∀ y ∈ scope.names, y.2 = .free → ∃ c, X.env.cells.lookup y.1 = some c := fun y hy e => by
    rcases ok.free y hy e with k | k
    · exact I.ok.has _ (.inl k)
    · exact I.ok.has _ (.inr k)
  refine wpAny_comprehension_free (use := none) rfl hs (closure_ok hfree) ok.kind (fun y hy e => by rw [ok.uniq y hy, e])
    (thn (hi.run pins s σ H _ I h) fun xv s1 hx => thn hx fun itv s2 h2 => ?_)
  obtain ⟨it, fp, tn, J, H2, e, I2, T, st2, f2, q⟩ := h2
  subst e
  refine wpAny_newObj_type (newEnv_comp ?_)
  generalize hD : s2.heap.objs.size = D
  have hDn : H2 D = none := I2.hok.fresh (Nat.le_of_eq hD)
  obtain ⟨W, ⟨m0, w0⟩, turn⟩ := q D hDn
  generalize hs3 : ({ s2 with heap := s2.heap.push { cls := .type "dict", data := .dict #[] } } : Shared) = s3
  have I3 : Inv X pins σ (upd H2 D (dct0 tb)) s3 := by
    rw [← hs3]
    refine I2.laid (t' := s2.toks) (fun b o e => Heap.get?_push_of_some _ e) (Nat.le_of_eq hD) ?_
    rw [← hD]
    cases tb with
    | true => exact dt_empty s2.heap I2.big
    | false => exact dk_empty s2.heap I2.big
  have h3 : s3.heap = s2.heap.push { cls := .type "dict", data := .dict #[] } := by rw [← hs3]
  have sz : ∀ b ∈ fp, b < s2.heap.objs.size := fun b hb => by
    obtain ⟨o, e, _⟩ := T.obj _ _ st2 b hb
    exact Heap.lt_size e
  have f3 : ∀ b ∈ fp, FpOk X pins (upd H2 D (dct0 tb)) b ∧ b < s3.heap.objs.size := fun b hb => by
    have hlt := sz b hb
    refine ⟨⟨?_, (f2 b hb).2⟩, by rw [h3, Heap.size_push]; exact Nat.lt_succ_of_lt hlt⟩
    rw [upd_ne (by rw [← hD]; exact Nat.ne_of_lt hlt)]
    exact (f2 b hb).1
  have st3 : tn 0 s3.heap := T.keep _ _ _ st2 fun b _ o e => by rw [h3]; exact Heap.get?_push_of_some _ e
  have I4 := block_start I3 ok hN f3
  have pg := hg s3 (upd H2 D (dct0 tb)) s3.heap.objs.size (cellsFrom (s3.heap.objs.size + 1) scope.names (cloFrom X.env.cells scope.names [])) fp
  have pt := ht s3 (upd H2 D (dct0 tb)) s3.heap.objs.size (cellsFrom (s3.heap.objs.size + 1) scope.names (cloFrom X.env.cells scope.names [])) fp
  have pk := hk s3 (upd H2 D (dct0 tb)) s3.heap.objs.size (cellsFrom (s3.heap.objs.size + 1) scope.names (cloFrom X.env.cells scope.names [])) fp
  have pe := he s3 (upd H2 D (dct0 tb)) s3.heap.objs.size (cellsFrom (s3.heap.objs.size + 1) scope.names (cloFrom X.env.cells scope.names [])) fp
  show codeAny _ _ (.compStart (.DictComp kx vx [⟨tg, iter, ifs, 0⟩] scope pos) 0 (.ref it) (.ref D) (compEnvC scope (cellsFrom (s3.heap.objs.size + 1) scope.names (cloFrom X.env.cells scope.names [])) s3.heap.objs.size X.env)) (compPost (model X.prog X.w) X.A X.xe none (EP X pins σ Q) (.ref D) s3.heap.objs.size) { s3 with heap := pushCells (s3.heap.push { cls := .type "dict", data := .dict #[] }) scope.names }
  have nfp : ∀ b ∈ fp, (upd H2 D (dct0 tb)) b = none := fun b hb => (f3 b hb).1.1
  generalize hce : compEnvC scope (cellsFrom (s3.heap.objs.size + 1) scope.names (cloFrom X.env.cells scope.names [])) s3.heap.objs.size X.env = ce at I4 pg pt pk pe ⊢
  have cL : ce.locals = s3.heap.objs.size := by subst hce; rfl
  generalize hH3 : upd H2 D (dct0 tb) = H3 at I3 I4 pg pt pk pe w0 nfp f3
  generalize hs4 : ({ s3 with heap := pushCells (s3.heap.push { cls := .type "dict", data := .dict #[] }) scope.names } : Shared) = s4 at I4 ⊢
  have st4 : tn 0 s4.heap := T.keep _ _ _ st3 fun b _ o e => by rw [← hs4]; exact pushCells_keeps _ _ _ _ (Heap.get?_push_of_some _ e)
  have stat : ∀ {σ' : L2.St} {H' : Hp} {s' : Shared}, Inv (X.blk s3 H3 scope ce fp) [] σ' H' s' → (∀ b ∈ fp, H' b = none) → ∀ b ∈ fp, FpOk (X.blk s3 H3 scope ce fp) [] H' b := fun {σ' H' s'} I' hn b hb =>
    ⟨hn b hb, (I'.ok.exf b hb).1, I'.ok.exfs b hb, .inl hb, fun x c e => (I'.ok.exf b hb).2 x c e, fun p hp => absurd (show p ∈ ([] : List (Addr × Obj)) ++ [] from hp) (by simp)⟩
  have loop : codeAny (model X.prog X.w) X.A (.compLoop (.DictComp kx vx [⟨tg, iter, ifs, 0⟩] scope pos) 0 (.ref it) (.ref D) ce) (compPost (model X.prog X.w) X.A X.xe none (EP X pins σ Q) (.ref D) s3.heap.objs.size) s4 := by
    refine compLoop_anyD (fun n s' => ∃ i H', Inv (X.blk s3 H3 scope ce fp) [] (wipe σ (own.map (·.2))) H' s' ∧ tn i s'.heap ∧ (∀ b ∈ fp, H' b = none) ∧ W i n H') ?_ m0 ⟨0, H3, I4, st4, nfp, w0⟩
    rintro n s5 ⟨i, H5, I5, st5, n5, w5⟩
    rcases turn i n H5 w5 with ⟨stop, qq⟩ | ⟨go, Nx, hNx, step⟩
    · have td := T.done (X.blk s3 H3 scope ce fp) rfl rfl rfl hc i [] s5 _ H5 (fun _ _ => False) I5 (stat I5 n5) st5 stop
      refine thnF td fun r s6 ⟨hr, I6⟩ => ?_
      subst hr
      have I7 : Inv X pins σ H5 s6 := I3.call' (ch := fp) I6.os I6.base I6.hok I6.bare fun b hb => ⟨(f3 b hb).1.2.2.2.1, (f3 b hb).1.2.1, (f3 b hb).1.2.2.2.2.1, (f3 b hb).1.2.2.2.2.2⟩
      have nC : H5 s3.heap.objs.size = none := by
        have z : H5 ce.locals = none := I6.free
        rw [cL] at z
        exact z
      obtain ⟨m, hn, _⟩ := I6.loc
      have hn : s6.heap.Ns ce.locals m := hn
      rw [cL] at hn
      obtain ⟨f0, f1, f2, f3, f4, f5⟩ := I3.fpOk (Nat.le_refl _) nC
      exact ⟨m, hn, fun h'' sb => ⟨.ref D, H5, I7.turned (t' := s6.toks) (fun b o hb e => (sb.2 b hb).trans e) f0 f1 f3 f4 f5, rfl, qq⟩⟩
    · have ti := T.item (X.blk s3 H3 scope ce fp) rfl rfl rfl hc i [] s5 _ H5 (fun _ _ => False) I5 (stat I5 n5) st5 go
      refine thnF ti fun r s6 ⟨u, hr, h6⟩ => ?_
      subst hr
      refine thnF h6 fun _ s7 ⟨x, H7, I7, r7, y7, st7, n7⟩ => ?_
      have I7' := I7.pinned (stat I7 n7) (T.obj _ _ st7)
      refine thnF (pg.run _ s7 _ H7 x u _ I7' r7 (step x H7 y7)) fun _ s8 ⟨σ8, H8, I8, hw8, q8⟩ => ?_
      refine thnF (pt.run _ s8 σ8 H8 _ I8 q8) fun b s9 ⟨H9, I9, q9⟩ => ?_
      have fin : ∀ {s' : Shared} {H' : Hp}, Inv (X.blk s3 H3 scope ce fp) ([] ++ pinsAt fp s7.heap) σ8 H' s' → Nx H' → ∃ m, m < n ∧ ∃ i H', Inv (X.blk s3 H3 scope ce fp) [] (wipe σ (own.map (·.2))) H' s' ∧ tn i s'.heap ∧ (∀ b ∈ fp, H' b = none) ∧ W i m H' := fun {s' H'} I' nx => by
        obtain ⟨m', hm, w'⟩ := hNx H' nx
        have pin' : ∀ b ∈ fp, ∀ o, s7.heap.get? b = some o → s'.heap.get? b = some o ∧ H' b = none := fun b hb o e =>
          let z := I'.pin (b, o) (List.mem_append_right _ (List.mem_append_right _ (mem_pinsAt hb e)))
          ⟨z.1, z.2.1⟩
        have hl : (wipe σ (own.map (·.2))).length = σ8.length := by rw [← hw8, wipe_length]
        refine ⟨m', hm, i + 1, H', (I'.unpinned (pins := [])).weak hl (fun j v e => ?_), T.keep _ _ _ st7 fun b hb o e => (pin' b hb o e).1, fun b hb => ?_, w'⟩
        · rw [← hw8] at e
          exact (wipe_some e).1
        · obtain ⟨o, e, _⟩ := T.obj _ _ st7 b hb
          exact (pin' b hb o e).2
      cases b with
      | false =>
        simp only [Bool.false_eq_true, if_false] at q9 ⊢
        exact fin I9 q9
      | true =>
        simp only [if_true] at q9 ⊢
        refine thnF (pk.run _ s9 σ8 H9 _ I9 q9) fun z s10 ⟨yk, H10, I10, r10, q10⟩ => ?_
        refine thnF (pe.run _ s10 σ8 H10 _ I10 q10) fun z2 s11 ⟨yv, H11, I11, r11, H12, put, nx⟩ => ?_
        exact set_put (X := X.blk s3 H3 scope ce fp) hu I11 put r10 r11 fun s12 I12 => fin I12 nx
  exact codeAny_compStart_dict loop (T.self X.A 0 _ _ _ st4 loop)
end
/-! ### over data -/
def putKD {κ : Type} [DecidableEq κ] (kvs : List (κ × D)) (k : κ) (v : D) : List (κ × D) :=
  if (kvs.any fun kv => decide (kv.1 = k)) = true then kvs.map (fun kv => if kv.1 = k then (kv.1, v) else kv) else kvs ++ [(k, v)]
def keyOf : D → Option Key
  | .int i => some (.inl i)
  | .str x => some (.inr x)
  | _ => none
def keysOf : List D → Option (List Key)
  | [] => some []
  | d :: ds => match keyOf d, keysOf ds with
    | some k, some ks => some (k :: ks)
    | _, _ => none
def putD (n : Nat) (k v : D) : Sto → Option Sto := fun S => match S[n]? with
  | some (.dct kvs) => match keyOf k with
    | some key => if kvs.length < sizeLine then some (S.set n (.dct (putKD kvs key v))) else none
    | none => none
  | some (.dcT kvs) => match k with
    | .ttp ds => match keysOf ds with
      | some key => if kvs.length < sizeLine then some (S.set n (.dcT (putKD kvs key v))) else none
      | none => none
    | _ => none
  | _ => none
section
variable {K : PySem.W.Frag} {mu : List Addr} {H : Hp}
theorem keyOf_of {v : V} {d : D} {k : Key} (r : Rep K mu H v d) (h : keyOf d = some k) : v = kV k := by
  cases d <;> cases h <;> cases r <;> rfl
theorem keysOf_of : ∀ {ds : List D} {vs : List V} {ks : List Key}, Reps K mu H vs ds → keysOf ds = some ks → vs = ks.map kV
  | [], _, _, .nil, h => by
    cases h
    rfl
  | d :: ds, v :: vs, ks, .cons r t, h => by
    unfold keysOf at h
    cases e1 : keyOf d with
    | none => rw [e1] at h; cases h
    | some a =>
      cases e2 : keysOf ds with
      | none => rw [e1, e2] at h; cases h
      | some as =>
        rw [e1, e2] at h
        cases h
        rw [keyOf_of r e1, keysOf_of t e2]
        rfl
theorem kreps_any {κ : Type} [DecidableEq κ] {k : κ} : ∀ {vs : List (κ × V)} {ds : List (κ × D)}, KReps K mu H vs ds → (vs.any fun kv => decide (kv.1 = k)) = ds.any fun kv => decide (kv.1 = k)
  | _, _, .nil => rfl
  | _, _, .cons h t => by rw [List.any_cons, List.any_cons, h.1, kreps_any t]
theorem kreps_put {κ : Type} [DecidableEq κ] {k : κ} {v : V} {d : D} {vs : List (κ × V)} {ds : List (κ × D)} (h : KReps K mu H vs ds) (r : Rep K mu H v d) : KReps K mu H (putK vs k v) (putKD ds k d) := by
  unfold putK putKD
  rw [kreps_any h]
  by_cases q : (ds.any fun kv => decide (kv.1 = k)) = true
  · rw [if_pos q, if_pos q]
    clear q
    induction h with
    | nil => exact .nil
    | @cons p q ps qs h t ih =>
      refine .cons ?_ ih
      obtain ⟨h1, h2⟩ := h
      by_cases e : q.1 = k
      · simp only [if_pos e, if_pos (h1.trans e)]
        exact ⟨h1, r⟩
      · simp only [if_neg e, if_neg (fun z => e (h1.symm.trans z))]
        exact ⟨h1, h2⟩
  · rw [if_neg q, if_neg q]
    exact Paired.snoc h ⟨rfl, r⟩
theorem putD_of {S S' : Sto} {n : Nat} {k d : D} {a : Addr} {y v : V} (hS : HRep K mu H S) (hn : mu[n]? = some a) (ry : Rep K mu H y k) (rv : Rep K mu H v d) (h : putD n k d S = some S') : ∃ H6, DPut H a y v H6 ∧ Ext mu H mu H6 ∧ HRep K mu H6 S' := by
  obtain ⟨o, ho, hm⟩ := hS.obj hn
  unfold putD at h
  rw [ho] at h
  cases o with
  | dct kvs =>
    obtain ⟨vs, h1, hr⟩ := hm
    cases e : keyOf k with
    | none => simp only [e] at h; cases h
    | some key =>
      simp only [e] at h
      by_cases hl : kvs.length < sizeLine
      · rw [if_pos hl] at h
        cases h
        have ex : Ext mu H mu (upd H a (.dK (putK vs key v))) := ext_put hn h1 trivial
        rw [keyOf_of ry e]
        exact ⟨_, .k h1 (by rw [Paired.length hr]; exact hl), ex, hS.put (u' := .dK vs) hn ex ⟨_, upd_same, (kreps_put hr rv).mono ex⟩⟩
      · rw [if_neg hl] at h
        cases h
  | dcT kvs =>
    obtain ⟨vs, h1, hr⟩ := hm
    cases ry with
    | ttp hq hrs =>
      rename_i ad ws ds
      cases e : keysOf ds with
      | none => simp only [e] at h; cases h
      | some key =>
        simp only [e] at h
        by_cases hl : kvs.length < sizeLine
        · rw [if_pos hl] at h
          cases h
          have ex : Ext mu H mu (upd H a (.dT (putK vs key v))) := ext_put hn h1 trivial
          exact ⟨_, .t h1 (by rw [← keysOf_of hrs e]; exact hq) (by rw [Paired.length hr]; exact hl), ex, hS.put (u' := .dT vs) hn ex ⟨_, upd_same, (kreps_put hr rv).mono ex⟩⟩
        · rw [if_neg hl] at h
          cases h
    | _ => cases h
  | _ => cases h
end
def dcGo (src : Src) (g : Tg) (t : Env → M Bool) (ek ev : Env → M D) (n : Nat) (r : Env) : Nat → Nat → Sto → Res D
  | 0, i, S => match nextD src i S with
    | some none => .ok (.loc n) S
    | _ => .bad
  | k + 1, i, S => match nextD src i S with
    | some none => .ok (.loc n) S
    | none => .bad
    | some (some d) => match g d r S with
      | .ok r' S' => match t r' S' with
        | .ok true S2 => match ek r' S2 with
          | .ok y S3 => match ev r' S3 with
            | .ok z S3' => match putD n y z S3' with
              | some S4 => dcGo src g t ek ev n r k (i + 1) S4
              | none => .bad
            | _ => .bad
          | _ => .bad
        | .ok false S2 => dcGo src g t ek ev n r k (i + 1) S2
        | _ => .bad
      | _ => .bad
def mo0 (tk : Bool) : MO := if tk = true then .dcT [] else .dct []
def mDc (tk : Bool) (m : Env → M Src) (g : Tg) (t : Env → M Bool) (ek ev : Env → M D) (vs : List Nat) : Env → M D := fun r => bnd (m r) fun src S => dcGo src g t ek ev S.length (wipeE r vs) (turns src S) 0 (S ++ [mo0 tk])
theorem morep0 {K : PySem.W.Frag} {mu : List Addr} {H : Hp} {a : Addr} (tk : Bool) (h : H a = some (dct0 tk)) : MoRep K mu H a (mo0 tk) := by
  cases tk with
  | true => exact ⟨[], h, .nil⟩
  | false => exact ⟨[], h, .nil⟩
theorem dc_go {X : Cx} {W : WX} {tk : Bool} {m : Env → M Src} {vs : List Nat} {g : Tg} {t : Env → M Bool} {ek ev : Env → M D} {σ : L2.St} {H : Hp} {Q : VK} (q : rdE X.K W (mDc tk m g t ek ev vs) σ H Q) : tDcP (dct0 tk) (rdI X.K W m) (rdG X.K W0 vs g) (rdT X.K W0 t) (rdE X.K W0 ek) (rdE X.K W0 ev) vs σ H Q := by
  obtain ⟨r, mu, S, hS, he, hp⟩ := q
  refine ⟨r, mu, S, hS, he, hp.bnd.imp fun src S1 m2 H2 ex h2 q2 J hJ D hD => ?_⟩
  have hn : (m2 ++ [D])[S1.length]? = some D := by rw [h2.len]; simp
  refine ⟨fun i k H => ∃ mu S, HRep X.K mu H S ∧ Ext (m2 ++ [D]) (upd H2 D (dct0 tk)) mu H ∧ Post X.K W σ mu H (fun d _ mu' H' => ∀ v, Rep X.K mu' H' v d → Q v H') (dcGo src g t ek ev S1.length (wipeE r vs) k i S), ⟨turns src S1, m2 ++ [D], S1 ++ [mo0 tk], h2.new (o := mo0 tk) hD (morep0 tk upd_same), Ext.refl, q2.later (ext_new hD)⟩, fun i k H hW => ?_⟩
  obtain ⟨mu, S, hS, ex2, hp⟩ := hW
  have hJ' := (hJ.mono (ext_new hD)).mono ex2
  have he' := ((he.mono ex).mono (ext_new (u := dct0 tk) hD)).mono ex2
  have hn' := ex2.get hn
  cases en : nextD src i S with
  | none =>
    exfalso
    cases k with
    | zero => unfold dcGo at hp; rw [en] at hp; exact hp
    | succ k => unfold dcGo at hp; rw [en] at hp; exact hp
  | some o =>
    cases o with
    | none =>
      left
      refine ⟨hJ'.stop hS en, ?_⟩
      cases k with
      | zero => unfold dcGo at hp; rw [en] at hp; exact hp mu H Ext.refl hS _ (.loc hn')
      | succ k => unfold dcGo at hp; rw [en] at hp; exact hp mu H Ext.refl hS _ (.loc hn')
    | some d =>
      right
      obtain ⟨hgo, hy⟩ := hJ'.go hS en
      cases k with
      | zero => unfold dcGo at hp; rw [en] at hp; exact hp.elim
      | succ k =>
        refine ⟨hgo, fun H => ∃ mu S, HRep X.K mu H S ∧ Ext (m2 ++ [D]) (upd H2 D (dct0 tk)) mu H ∧ Post X.K W σ mu H (fun d _ mu' H' => ∀ v, Rep X.K mu' H' v d → Q v H') (dcGo src g t ek ev S1.length (wipeE r vs) k (i + 1) S), fun H' hN => ⟨k, Nat.lt_succ_self k, hN⟩, fun x H' y => ?_⟩
        obtain ⟨exy, hSy, rx⟩ := hy x H' y
        replace hS := hSy
        replace he' := he'.mono exy
        replace hp := hp.later exy
        replace ex2 := ex2.trans exy
        refine ⟨wipeE r vs, mu, S, d, hS, he'.wipe vs, rx, ?_⟩
        unfold dcGo at hp
        simp only [en] at hp
        cases eg : g d (wipeE r vs) S with
        | err x S' => simp only [eg] at hp; exact hp.elim
        | bad => simp only [eg] at hp; exact hp
        | ok r' S' =>
          simp only [eg] at hp
          intro m3 H3 e3 h3 σ3 he3 hw
          have wi2 : wipe (wipe σ vs) vs = wipe σ vs := lc_go.wipe_twice σ vs
          refine ⟨by rw [hw, wi2], r', m3, S', h3, he3, ?_⟩
          cases et : t r' S' with
          | err x S2 => rw [et] at hp; exact hp.elim
          | bad => rw [et] at hp; exact hp
          | ok kk S2 =>
            rw [et] at hp
            intro m4 H4 e4 h4
            cases kk with
            | false =>
              rw [if_neg Bool.false_ne_true]
              exact ⟨m4, S2, h4, (ex2.trans e3).trans e4, (hp.later e3).later e4⟩
            | true =>
              rw [if_pos rfl]
              refine ⟨r', m4, S2, h4, he3.mono e4, ?_⟩
              cases ee : ek r' S2 with
              | err x S3 => simp only [ee] at hp; exact hp.elim
              | bad => simp only [ee] at hp; exact hp
              | ok yv S3 =>
                simp only [ee] at hp
                intro m5 H5 e5 h5 v rv
                refine ⟨r', m5, S3, h5, (he3.mono e4).mono e5, ?_⟩
                cases ev' : ev r' S3 with
                | err x S3 => simp only [ev'] at hp; exact hp.elim
                | bad => simp only [ev'] at hp; exact hp
                | ok zv S3' =>
                  simp only [ev'] at hp
                  intro m6 H6 e6 h6 w rw
                  cases ep : putD S1.length yv zv S3' with
                  | none => rw [ep] at hp; exact hp.elim
                  | some S4 =>
                    rw [ep] at hp
                    obtain ⟨H7, p1, p3, p4⟩ := putD_of h6 ((((e3.trans e4).trans e5).trans e6).get hn') (rv.mono e6) rw ep
                    exact ⟨H7, p1, m6, S4, p4, ((((ex2.trans e3).trans e4).trans e5).trans e6).trans p3, ((((hp.later e3).later e4).later e5).later e6).later p3⟩
theorem se_dc {X : Cx} {W : WX} {kx vx tg iter : Expr} {ifs : List Expr} {scope : Scope} {own : List (Str × Nat)} {pos : Pos} {m : Env → M Src} {g : Tg} {t : Env → M Bool} {ek ev : Env → M D} {tk : Bool} (hu : X.A.units + 1 < cLine) (hc : X.calm = true) (hN : X.N.Nodup) (hi : SI X W tg iter m) (ok : BlkOk X.N X.env.scope scope own)
    (hg : ∀ (s : Shared) (H : Hp) (C : Addr) (cl : List (Str × Addr)) (fp : List Addr), SG (X.blk s H scope (compEnvC scope cl C X.env) fp) W0 tg (own.map (·.2)) g)
    (ht : ∀ (s : Shared) (H : Hp) (C : Addr) (cl : List (Str × Addr)) (fp : List Addr), PTs (X.blk s H scope (compEnvC scope cl C X.env) fp) ifs (rdT X.K W0 t))
    (hk : ∀ (s : Shared) (H : Hp) (C : Addr) (cl : List (Str × Addr)) (fp : List Addr), SE (X.blk s H scope (compEnvC scope cl C X.env) fp) W0 kx ek)
    (he : ∀ (s : Shared) (H : Hp) (C : Addr) (cl : List (Str × Addr)) (fp : List Addr), SE (X.blk s H scope (compEnvC scope cl C X.env) fp) W0 vx ev) (hs : ∀ x, foldedSetIterable iter X.env x = pure x := by intro _; rfl) :
    SE X W (.DictComp kx vx [⟨tg, iter, ifs, 0⟩] scope pos) (mDc tk m g t ek ev (own.map (·.2))) := peI (pe_dcP (tb := tk) hu hc hN hi ok hg ht hk he hs) fun σ H Q q => dc_go q
/-! ### tuples as keys: known without their object -/
def tupT (ds : List D) : M D := if ds.length ≤ sizeLine then ret (.ttp ds) else fail
theorem se_tupT {X : Cx} {W : WX} {es : List Expr} {ms : Env → M (List D)} {pos : Pos} {x1} (h : SA X W es ms) : SE X W (.Tuple es x1 pos) (mA tupT ms) := peI (pe_tup h) fun σ H Q q => args (r := fun xs H1 Q => xs.length ≤ sizeLine ∧ ∀ p, H1 p = none → Q (.ref p) (upd H1 p (.tup xs))) (fun W σ mu H S xs vs Q hS hr hp => by
  unfold tupT at hp
  by_cases hl : xs.length ≤ sizeLine
  · rw [if_pos hl] at hp
    exact ⟨by rw [hr.length]; exact hl, fun p hn => hp mu _ (ext_tup hn) (hS.tup hn) _ (.ttp upd_same (hr.mono (ext_tup hn)))⟩
  · rw [if_neg hl] at hp
    exact hp.elim) q
def slT : D → Option Int → Option Int → M D := fun x lo hi => match x with
  | .tup ds => if (HT.sIx ds.length 0 lo = 0 ∧ HT.sIx ds.length ds.length hi = ds.length) then fail else ret (.ttp (cutD ds lo hi))
  | _ => fail
def mSlT (a : Env → M D) (lo hi : Env → M (Option Int)) : Env → M D := fun r => bnd (a r) fun x => bnd (lo r) fun l => bnd (hi r) fun u => slT x l u
theorem se_sliceT {X : Cx} {W : WX} {e : Expr} {lo hi : Option Expr} {m : Env → M D} {l u : Env → M (Option Int)} {p2 pos : Pos} (he : SE X W e m) (hl : SP X W lo l) (hu : SP X W hi u) : SE X W (.Subscript e (.Slice lo hi none p2) pos) (mSlT m l u) := peI (pe_slice sl_tup he hl hu) fun σ H Q q => by
  obtain ⟨r, mu, S, hS, he, hp⟩ := q
  refine ⟨r, mu, S, hS, he, hp.bnd.imp fun x S1 mu1 H1 ex hS1 q1 v rv => ?_⟩
  refine ⟨r, mu1, S1, hS1, he.mono ex, q1.bnd.imp fun a S2 mu2 H2 ex2 hS2 q2 => ?_⟩
  refine ⟨r, mu2, S2, hS2, (he.mono ex).mono ex2, q2.bnd.imp fun b S3 mu3 H3 ex3 hS3 q3 => ?_⟩
  have rv := (rv.mono ex2).mono ex3
  cases rv with
  | tup hd hq hr =>
    rename_i ad vs ds o
    have q4 : Post X.K W σ mu3 H3 _ ((if (HT.sIx ds.length 0 a = 0 ∧ HT.sIx ds.length ds.length b = ds.length) then fail else ret (D.ttp (cutD ds a b))) S3) := q3
    by_cases hw : HT.sIx ds.length 0 a = 0 ∧ HT.sIx ds.length ds.length b = ds.length
    · rw [if_pos hw] at q4
      exact q4.elim
    · rw [if_neg hw] at q4
      refine ⟨ad, vs, rfl, sqT_t hq, by rw [hr.length]; exact hw, fun p hp0 => ?_⟩
      exact q4 mu3 _ (ext_tup hp0) (hS3.tup hp0) _ (.ttp upd_same ((cut_reps a b hr).mono (ext_tup hp0)))
  | _ => exact q3.elim
end Fa
namespace Fa
open PySem PySem.Spec PyProof.Rows L2
/-! ### defs with defaults; recursion -/
structure FnX (K : PySem.W.Frag) (x qual : Str) (st : Stmt) (f : Addr) (fd : FuncData) : Prop where
  ex : ∃ (oc : Value) (od : Option Addr) (dV kV doc pm : Value) (an : Option Addr) (cdv ct : Value) (osl : Array (Option Value)),
    fd = PySem.W.fnOf x qual (defArgs st) (defBody st) (defScope st) dV kV doc pm an cdv ct ∧ K.lookup f = some ⟨oc, od, .func fd, osl⟩ ∧ PySem.W.codeIn K cdv qual = true
  kp : PySem.W.keepIn K (.ref f) = true
abbrev FunE (K : PySem.W.Frag) (x qual : Str) (st : Stmt) (dvs : List V) (f : Addr) (fd : FuncData) : Prop := FunD K x qual (defArgs st) (defBody st) (defScope st) dvs [] f fd
theorem FnX.of {K : PySem.W.Frag} {x qual : Str} {st : Stmt} {f : Addr} {fd : FuncData} (h : Fun K x qual st f fd) : FnX K x qual st f fd := by
  obtain ⟨oc, od, kV, doc, pm, an, cdv, ct, osl, rfl, h2, h3⟩ := h.ex
  exact ⟨⟨oc, od, .none, kV, doc, pm, an, cdv, ct, osl, rfl, h2, h3⟩, h.kp⟩
theorem FnX.ofD {K : PySem.W.Frag} {x qual : Str} {st : Stmt} {dvs : List V} {f : Addr} {fd : FuncData} (h : FunE K x qual st dvs f fd) : FnX K x qual st f fd := by
  obtain ⟨oc, od, dV, kV, doc, pm, an, cdv, ct, osl, h1, h2, h3, _⟩ := h.ex
  exact ⟨⟨oc, od, dV, kV, doc, pm, an, cdv, ct, osl, h1, h2, h3⟩, h.kp⟩
theorem fnG_mkX {P : Program} {w : World} {K : PySem.W.Frag} {mg : Str → Option Value} {base : Heap} {x qual : Str} {st : Stmt} {f : Addr} {fd : FuncData} {N ps : List Str} {k : Nat} {m : Env → Sto → Out} (Fu : FnX K x qual st f fd) (sc : FnScope N ps (defScope st))
    (hb : ∀ (cdv : Value) (A : Around) (outer : List PySem.Env) (s : Shared) (H : Hp) (E : XK), Room k (A.deeper (envOfC qual (defScope st) s.heap.objs.size f cdv)) → A.guards = some [] →
      Takes (cxOf (L2.CX P w) P w K mg base N qual (defScope st) f cdv A outer s H E) (WF E) → SB (cxOf (L2.CX P w) P w K mg base N qual (defScope st) f cdv A outer s H E) (WF E) (defBody st) m) :
    FnG P w K mg base (k + 1) f fd ps (fnM N.length ps.length m) := by
  intro A outer s H ar us vs Q E hr hgd e0 hbi rv hl hpr
  obtain ⟨oc, od, dV, kV, doc, pm, an, cdv, ct, osl, rfl, lk, hcd⟩ := Fu.ex
  have kept : ∀ b o, base.get? b = some o → s.heap.get? b = some o := fun b o q => (e0.bs b o q).1
  have KX : K.In s.heap := e0.mod.kin.keeps kept
  have hkind : ∀ y ∈ ps.zip us, (defScope st).names.lookup y.1 = some .local ∨ ((defScope st).names.lookup y.1 = some .cell ∧ ((cellsFrom (s.heap.objs.size + 1) (defScope st).names []).lookup y.1).isSome = true) := by
    intro y hy
    rcases sc.par y.1 (List.of_mem_zip (a := y.1) (b := y.2) hy).1 with z | z
    · exact Or.inl z
    · exact Or.inr ⟨z, PySem.W.cellsFrom_some _ _ _ (.inl z)⟩
  refine codeAny_call_function hr.depth (KX _ _ lk) rfl sc.co sc.gen rfl (PySem.W.codeRec_of KX hcd) (hbi _ _ _ _ ?_)
  refine wpAny_newFunctionEnv_cells sc.kind hkind fun env he s1 inC => ?_
  subst he
  refine ⟨(e0.mod.nolimit.keeps kept).keeps inC.toInCall.keep, codeAny_func ?_⟩
  have I := inv_start (CX := L2.CX P w) (E := E) sc hr.hd e0 hl rv inC
  have B := hb cdv A outer s H E (hr.deeper _) hgd (takes_of rfl rfl rfl rfl)
  obtain ⟨ds, mu, S, hS, hrs, hp⟩ := hpr
  refine wpAny_mono (B.run [] s1 (start N vs) H { nx := fun _ H' => Q .non H', rt := Q } I ?_) (fun fl s' hs => ?_) fun e s' hs => hs
  · refine ⟨_, mu, S, hS, erep_start _ hrs, ?_⟩
    rw [hl]
    have hl2 : ds.length = ps.length := by rw [← hrs.length]; exact hl
    unfold fnM at hp
    rw [if_pos hl2] at hp
    cases eo : m (ds.map some ++ List.replicate (N.length - ps.length) none) S with
    | nx r S' => rw [eo] at hp; exact fun m2 H2 σ2 e2 h2 _ => hp m2 H2 e2 h2 _ .non
    | rt d S' => rw [eo] at hp; exact fun m2 H2 v e2 h2 q2 => hp m2 H2 e2 h2 v q2
    | bk r S' => rw [eo] at hp; exact hp.elim
    | ct r S' => rw [eo] at hp; exact hp.elim
    | ex z r S' => rw [eo] at hp; exact fun m2 H2 σ2 c dd e2 h2 _ q2 => hp m2 H2 c dd e2 h2 q2
    | bad => rw [eo] at hp; exact hp
  · cases fl with
    | ret u =>
      obtain ⟨v, σ', H', J, r', q⟩ := hs
      exact ⟨v, H', J.os, J.bare, J.base, J.hok, r', q⟩
    | next =>
      obtain ⟨σ', H', J, q⟩ := hs
      exact ⟨V.non, H', J.os, J.bare, J.base, J.hok, rfl, q⟩
    | brk => exact hs.elim fun _ z => z.elim fun _ z => z.2.elim
    | cont => exact hs.elim fun _ z => z.elim fun _ z => z.2.elim
/-- no function at all: the end of the fuel -/
def noF : List D → M D := fun _ _ => .bad
theorem fnG_no {P : Program} {w : World} {K : PySem.W.Frag} {mg : Str → Option Value} {base : Heap} {k : Nat} {f : Addr} {fd : FuncData} {ps : List Str} : FnG P w K mg base k f fd ps noF := by
  intro A outer s H ar us vs Q E hr hgd e0 hbi rv hl hpr
  obtain ⟨ds, mu, S, hS, hrs, hp⟩ := hpr
  exact hp.elim
theorem noF_arity {n : Nat} : arity n noF := fun _ _ _ => rfl
def dfl (F : List D → M D) (dds : List D) : List D → M D := fun ds => F (ds ++ dds)
theorem Reps.app {K : PySem.W.Frag} {mu : List Addr} {H : Hp} {vs ws : List V} {ds es : List D} (a : Reps K mu H vs ds) (b : Reps K mu H ws es) : Reps K mu H (vs ++ ws) (ds ++ es) := a.append b
section
variable {X : Cx} {W : WX} {k : Nat} {f : Addr} {fd : FuncData} {ps : List Str} {F : List D → M D} {x : Str} {p pos : Pos} {e : Expr} {es : List Expr} {ms : Env → M (List D)} {dvs : List V} {dds : List D}
theorem se_callD (G : FnG X.prog X.w X.K X.mg X.base k f fd ps F) (hr : Room k X.A) (hgd : X.A.guards = some []) (tk : Takes X W) (hg : Gl X x) (hm : X.mg x = some (.ref f)) (hk : PySem.W.keepIn X.K (.ref f) = true) (hb : ∃ us, Vals dvs us ∧ Binds X.K fd ps us) (hd : ∀ K mu H, Reps K mu H dvs dds) (ar : arity ps.length F)
    (ha : SA X W (e :: es) ms) (hdb : (x == ("__debug__" : Str)) = false := by decide) (he : starEach (e :: es) X.env = (false, eval e X.env) :: starEach es X.env := by rfl) (hpl : (backTo pos (starEach es X.env)).any (·.1) = false := by rfl) :
    SE X W (.Call (.Name x p) (e :: es) [] pos) (mA (dfl F dds) ms) := by
  constructor
  intro pins s σ H Q I q
  obtain ⟨r, mu, S, hS, hE, hp⟩ := q
  obtain ⟨du, rdu, hb⟩ := hb
  refine wpAny_Call_Name_kw (ld_glob I hg hm ?_ hdb)
  have q1 : rdA X.K W ms σ H fun vs H1 => (vs ++ dvs).length = ps.length ∧ prom X.K F (vs ++ dvs) H1 Q (WE W σ) := by
    refine ⟨r, mu, S, hS, hE, hp.bnd.imp fun ds S1 m2 H2 ex h2 q2 vs rv => ?_⟩
    have rr := rv.app (hd X.K m2 H2)
    refine ⟨?_, prom_of h2 rr q2⟩
    rw [rr.length]
    refine Decidable.byContradiction fun z => ?_
    have q3 : Post X.K W σ m2 H2 _ (F (ds ++ dds) S1) := q2
    rw [ar _ S1 z] at q3
    exact q3
  refine PySem.W.callWith_K (h₀ := X.base) I.ok.mod.kin hk (thn (ha.run pos pins s σ H _ I q1) fun us s1 z => ?_) he hpl
  obtain ⟨vs, H1, I1, rv, hl, hpr⟩ := z
  have rv2 : Vals (vs ++ dvs) (us ++ du) := rv.append rdu
  exact ⟨I1.kIn, runG (ar := ⟨us, []⟩) (us := us ++ du) G hr hgd tk I1 (hb s1 us I1.kIn (by rw [← rv2.length]; exact hl)) rv2 hl hpr⟩
end
end Fa
namespace Fa
open PySem PySem.Spec PyProof.Rows L2
theorem units65 {k : Nat} {A : Around} (hr : Room k A) : A.units + 65 < cLine := by have := hr.un; omega
theorem units1 {k : Nat} {A : Around} (hr : Room k A) : A.units + 1 < cLine := by have := hr.un; omega
/-- a constant tuple -/
theorem se_ktp {X : Cx} {W : WX} {x : Str} {pos : Pos} {a : Addr} {vs : List V} {ds : List D} (hg : Gl X x) (hm : X.mg x = some (.ref a)) (hq : SqK X.K a vs) (hd : ∀ K mu H, Reps K mu H vs ds) (hdb : (x == ("__debug__" : Str)) = false := by decide) : SE X W (.Name x pos) (mC (.ktp ds)) :=
  peI (pe_glob (v := .ref a) hg hm rfl hdb) fun σ H Q q => by
    obtain ⟨r, mu, S, hS, he, hp⟩ := q
    exact hp mu H Ext.refl hS _ (.ktp hq (hd _ _ _))
end Fa
namespace Fa
open PySem PySem.Spec PyProof.Rows L2
section
variable {K : PySem.W.Frag} {X : Cx}
/-! ### methods of tuples -/
def TyF (K : PySem.W.Frag) (x : V) (H : Hp) : Prop := tyV K "tuple" x H ∨ ∃ (a : Addr) (o : Obj) (xs : List V), x = .ref a ∧ o.dict = none ∧ H a = some (.frz o (.tup xs))
theorem tyF_is {pins : List (Addr × Obj)} {σ : L2.St} {H : Hp} {s : Shared} {x : V} {v : Value} (I : Inv X pins σ H s) (r : RelV x v) (ty : TyF X.K x H) :
    s.TypeIs v "tuple" ∧ ∀ a, v = .ref a → ∃ ob, s.heap.get? a = some ob ∧ ob.dict = none := by
  rcases ty with ty | ⟨a, o, xs, rfl, hd, h⟩
  · exact tyV_is I r ty
  · cases r
    obtain ⟨e1, _, its, _, o', e2, c, _⟩ := I.hok a _ h
    rw [e1] at e2
    cases e2
    refine ⟨⟨o, e1, c⟩, fun b z => ?_⟩
    cases z
    exact ⟨o, e1, hd⟩
theorem pe_bmF {o e : Expr} {es : List Expr} {to : TE} {t : TA} {name : Str} {apos cpos : Pos} {id : String} {r : V → List V → Hp → VK → Prop} (slot : Slot "tuple" name id) (hty : typeOf (.builtin id) = pure (.type "method_descriptor")) (hm : MtR X id r) (ho : PE X o to) (ha : PA X (e :: es) t)
    (hbase : attributeBase o name X.env (eval o X.env) = eval o X.env := by rfl)
    (hfew : ((backTo cpos (starEach (e :: es) X.env)).all (fun x => !x.1) && (backToKw cpos (keywordEach [] X.env)).all (fun x => x.1.isSome)
      && decide ((e :: es).length + ([] : List Keyword).length + (if ([] : List Keyword).isEmpty then 0 else 1) < 30)) = true := by rfl)
    (hline : (apos.endLine == cpos.line) = true := by rfl) (hs : starEach (e :: es) X.env = (false, eval e X.env) :: starEach es X.env := by rfl) (hplain : (backTo cpos (starEach es X.env)).any (·.1) = false := by rfl) :
    PE X (.Call (.Attribute o name apos) (e :: es) [] cpos) (fun σ H Q => to σ H fun x H1 => TyF X.K x H1 ∧ t σ H1 fun xs H2 => r x xs H2 Q) := by
  refine ⟨fun pins s σ H Q I h => ?_⟩
  refine wpAny_Call_method_late hbase hfew hline rfl (thn (ho.run pins s σ H _ I h) fun v s1 ⟨x, H1, I1, r1, ty, q1⟩ => ?_)
  obtain ⟨h1, h2⟩ := tyF_is I1 r1 ty
  refine ⟨"tuple", id, PySem.F.plainAttrs_tuple, slot, hty, h1, h2, ?_⟩
  have hA := ha.run cpos pins s1 σ H1 _ I1 q1
  rw [hs] at hA ⊢
  refine Calls.callWith_builtin (by show (false || (backTo cpos (starEach es X.env)).any (·.1)) = false; rw [hplain] <;> rfl) (Calls.evalArgs_plain ?_)
  exact thn hA fun us s2 ⟨vs, H2, I2, r2, q2⟩ => hm pins s2 σ H2 x vs v us Q I2 r1 r2 q2
def idxA : D → List D → M D := fun x xs => match x, xs with
  | .ktp ds, [.str z] => match (strsOf ds).bind (seek z) with
    | some j => ret (.int j)
    | none => fail
  | .tup ds, [.str z] => match (strsOf ds).bind (seek z) with
    | some j => ret (.int j)
    | none => fail
  | _, _ => fail
theorem o_idxA : OpM K (rTIndex K) idxA := by
  intro W σ mu H S x xs v vs Q hS rv rs hp
  unfold idxA at hp
  split at hp
  · rename_i ds z
    obtain ⟨w, rfl, rw⟩ := one_of rs
    cases rw
    cases rv with
    | ktp hq hr =>
      cases e : (strsOf ds).bind (seek z) with
      | none => rw [e] at hp; exact hp.elim
      | some j =>
        rw [e] at hp
        obtain ⟨ys, e1, e2⟩ := Option.bind_eq_some_iff.mp e
        obtain ⟨h1, h2⟩ := seek_of e2
        exact ⟨_, ys, z, j, rfl, rfl, by rw [← strsOf_of e1 hr]; exact sqT_k hq, h1, h2, hp mu H Ext.refl hS _ (.int _)⟩
  · rename_i ds z
    obtain ⟨w, rfl, rw⟩ := one_of rs
    cases rw
    cases rv with
    | tup _ hq hr =>
      cases e : (strsOf ds).bind (seek z) with
      | none => rw [e] at hp; exact hp.elim
      | some j =>
        rw [e] at hp
        obtain ⟨ys, e1, e2⟩ := Option.bind_eq_some_iff.mp e
        obtain ⟨h1, h2⟩ := seek_of e2
        exact ⟨_, ys, z, j, rfl, rfl, by rw [← strsOf_of e1 hr]; exact sqT_t hq, h1, h2, hp mu H Ext.refl hS _ (.int _)⟩
  · exact hp.elim
def mTM (f : D → List D → M D) (o : Env → M D) (a : Env → M (List D)) : Env → M D := fun r => bnd (o r) fun x => match x with
  | .ktp _ => bnd (a r) fun xs => f x xs
  | .tup _ => bnd (a r) fun xs => f x xs
  | _ => fail
theorem se_tm {W : WX} {name : Str} {r : V → List V → Hp → VK → Prop} {f : D → List D → M D} {o e : Expr} {es : List Expr} {mo : Env → M D} {ms : Env → M (List D)} {pos apos : Pos} (hf : OpM X.K r f) (ho : SE X W o mo) (ha : SA X W (e :: es) ms)
    (base : ∀ {to : TE} {t : TA}, PE X o to → PA X (e :: es) t → PE X (.Call (.Attribute o name apos) (e :: es) [] pos) (fun σ H Q => to σ H fun x H1 => TyF X.K x H1 ∧ t σ H1 fun xs H2 => r x xs H2 Q)) : SE X W (.Call (.Attribute o name apos) (e :: es) [] pos) (mTM f mo ms) := peI (base ho ha) fun σ H Q q => by
  obtain ⟨r, mu, S, hS, he, hp⟩ := q
  refine ⟨r, mu, S, hS, he, hp.bnd.imp fun x S1 mu1 H1 ex hS1 q1 v rv => ?_⟩
  cases x with
  | ktp ds =>
    have q2 : Post X.K W σ mu1 H1 _ (bnd (ms r) (fun xs => f (.ktp ds) xs) S1) := q1
    cases rv with
    | ktp hq hr =>
      obtain ⟨o, its, n, h1, h2, h3, _⟩ := id hq
      refine ⟨.inl (.inr (.inl ⟨rfl, o, h1, h2, h3⟩)), r, mu1, S1, hS1, he.mono ex, q2.bnd.imp fun y S2 mu2 H2 ex2 hS2 q3 w rw => ?_⟩
      exact hf W σ mu2 H2 S2 _ _ _ _ Q hS2 (.ktp hq (hr.mono ex2)) rw q3
  | tup ds =>
    have q2 : Post X.K W σ mu1 H1 _ (bnd (ms r) (fun xs => f (.tup ds) xs) S1) := q1
    cases rv with
    | tup hd hq hr =>
      refine ⟨.inr ⟨_, _, _, rfl, hd, hq⟩, r, mu1, S1, hS1, he.mono ex, q2.bnd.imp fun y S2 mu2 H2 ex2 hS2 q3 w rw => ?_⟩
      exact hf W σ mu2 H2 S2 _ _ _ _ Q hS2 ((Rep.tup hd hq hr).mono ex2) rw q3
  | _ => exact q1.elim
end
end Fa
namespace Fa
open PySem PySem.Spec PyProof.Rows L2
/-! ### instances -/
/-- what is known of the class cn and the attribute f of its instances -/
structure AtI (K : PySem.W.Frag) (cn f : Str) : Prop where
  ex : ∃ C, ClsAt K cn C ∧ Cls K C ∧ NoAttr K C f
def fldD (cs : List Str) (f : Str) : D → M D := fun x S => match x with
  | .loc n => match S[n]? with
    | some (.ins cn fs) => if cn ∈ cs then match fs.lookup f with
        | some d => .ok d S
        | none => .bad
      else .bad
    | _ => .bad
  | _ => .bad
section
variable {K : PySem.W.Frag} {X : Cx}
theorem kreps_lookup {mu : List Addr} {H : Hp} {f : Str} : ∀ {vs : List (Str × V)} {ds : List (Str × D)} {d : D}, KReps K mu H vs ds → ds.lookup f = some d → ∃ v, vs.lookup f = some v ∧ Rep K mu H v d
  | _, _, _, .nil, e => by cases e
  | (a, v) :: vs, (b, d') :: ds, d, .cons h t, e => by
    obtain ⟨h1, h2⟩ := h
    have h1 : a = b := h1
    subst h1
    rw [List.lookup_cons] at e ⊢
    cases q : f == a with
    | true =>
      rw [q] at e
      cases e
      exact ⟨v, rfl, h2⟩
    | false =>
      rw [q] at e
      exact kreps_lookup t e
theorem kreps_nolook {mu : List Addr} {H : Hp} {f : Str} : ∀ {vs : List (Str × V)} {ds : List (Str × D)}, KReps K mu H vs ds → ds.lookup f = none → vs.lookup f = none
  | _, _, .nil, _ => rfl
  | (a, v) :: vs, (b, d') :: ds, .cons h t, e => by
    obtain ⟨h1, h2⟩ := h
    have h1 : a = b := h1
    subst h1
    rw [List.lookup_cons] at e ⊢
    cases q : f == a with
    | true => rw [q] at e; cases e
    | false =>
      rw [q] at e
      exact kreps_nolook t e
theorem se_fld {W : WX} {e : Expr} {f : Str} {pos : Pos} {m : Env → M D} {cs : List Str} (hc : ∀ cn ∈ cs, AtI X.K cn f) (he : SE X W e m) (hb : attributeBase e f X.env (eval e X.env) = eval e X.env := by rfl) : SE X W (.Attribute e f pos) (m1 (fldD cs f) m) := peI (pe_fld he hb) fun σ H Q q => by
  obtain ⟨r, mu, S, hS, he, hp⟩ := q
  refine ⟨r, mu, S, hS, he, hp.bnd.imp fun x S1 mu1 H1 ex hS1 q1 v rv => ?_⟩
  cases rv with
  | loc hn =>
    obtain ⟨o, ho, qo⟩ := hS1.obj hn
    unfold fldD at q1
    simp only [ho] at q1
    cases o with
    | ins cn fs =>
      simp only at q1
      by_cases hm : cn ∈ cs
      · rw [if_pos hm] at q1
        obtain ⟨C, dx, vs, hC, h1, hr⟩ := qo
        obtain ⟨C', hC', c1, c2⟩ := (hc cn hm).ex
        obtain rfl := hC.uniq hC'
        cases e1 : fs.lookup f with
        | none => rw [e1] at q1; exact q1.elim
        | some d =>
          rw [e1] at q1
          obtain ⟨w, l1, l2⟩ := kreps_lookup hr e1
          exact ⟨_, _, _, _, w, rfl, h1, c1, c2, l1, q1 mu1 H1 Ext.refl hS1 _ l2⟩
      · rw [if_neg hm] at q1
        exact q1.elim
    | _ => exact q1.elim
  | _ => exact q1.elim
/-! ### o.m(..) -/
/-- the method m of the class cn stands at f -/
structure MtI (K : PySem.W.Frag) (cn m : Str) (f : Addr) : Prop where
  ex : ∃ C, ClsAt K cn C ∧ Cls K C ∧ Meth K C m f
def isIns (cn m : Str) : D → M Unit := fun x S => match x with
  | .loc n => match S[n]? with
    | some (.ins cn' fs) => if cn' = cn then match fs.lookup m with
        | none => .ok () S
        | some _ => .bad
      else .bad
    | _ => .bad
  | _ => .bad
def mMeth (cn m : Str) (F : List D → M D) (o : Env → M D) (a : Env → M (List D)) : Env → M D := fun r => bnd (o r) fun x => bnd (isIns cn m x) fun _ => bnd (a r) fun xs => F (x :: xs)
theorem isIns_of {W : WX} {σ : L2.St} {mu : List Addr} {H : Hp} {S : Sto} {cn m : Str} {x : D} {v : V} {Q : Unit → Sto → List Addr → Hp → Prop} (hS : HRep K mu H S) (rv : Rep K mu H v x) (hp : Post K W σ mu H Q (isIns cn m x S)) :
    ∃ a C dx fs, v = .ref a ∧ ClsAt K cn C ∧ H a = some (.ins C dx fs) ∧ fs.lookup m = none ∧ Q () S mu H := by
  unfold isIns at hp
  cases rv with
  | loc hn =>
    obtain ⟨o, ho, qo⟩ := hS.obj hn
    simp only [ho] at hp
    cases o with
    | ins cn' fs =>
      simp only at hp
      by_cases hm : cn' = cn
      · rw [if_pos hm] at hp
        subst hm
        obtain ⟨C, dx, vs, hC, h1, hr⟩ := qo
        cases e1 : fs.lookup m with
        | some d => rw [e1] at hp; exact hp.elim
        | none =>
          rw [e1] at hp
          exact ⟨_, C, dx, vs, rfl, hC, h1, kreps_nolook hr e1, hp mu H Ext.refl hS⟩
      · rw [if_neg hm] at hp
        exact hp.elim
    | _ => exact hp.elim
  | _ => exact hp.elim
variable {W : WX} {k : Nat} {f : Addr} {fd : FuncData} {ps : List Str} {F : List D → M D} {cn m : Str} {apos pos : Pos} {o e : Expr} {es : List Expr} {mo : Env → M D} {ms : Env → M (List D)}
theorem se_meth {pl : Sem Bool} (G : FnG X.prog X.w X.K X.mg X.base k f fd ps F) (hr : Room k X.A) (hgd : X.A.guards = some []) (tk : Takes X W) (mi : MtI X.K cn m f) (hb : Binds X.K fd ps []) (ar : arity ps.length F) (ho : SE X W o mo) (ha : SA X W (e :: es) ms)
    (hst : starEach (e :: es) X.env = (false, eval e X.env) :: starEach es X.env := by rfl) (hpl : (backTo pos (starEach es X.env)).any (·.1) = false := by rfl)
    (ht : eval (.Call (.Attribute o m apos) (e :: es) [] pos) X.env = (do
      let ov ← eval o X.env
      standAt apos.atName
      let (f, first) ← holding [ov] (getMethod ov m pl)
      callWith pos f first (backTo pos (starEach (e :: es) X.env)) (backToKw pos (keywordEach [] X.env))) := by rfl) :
    SE X W (.Call (.Attribute o m apos) (e :: es) [] pos) (mMeth cn m F mo ms) := by
  constructor
  intro pins s σ H Q I q
  obtain ⟨r, mu, S, hS, hE, hp⟩ := q
  obtain ⟨C, hC, c1, c2⟩ := mi.ex
  have q1 : rdE X.K W mo σ H fun x H1 => ∃ a dx fs, x = .ref a ∧ H1 a = some (.ins C dx fs) ∧ fs.lookup m = none ∧ rdA X.K W ms σ H1 fun vs H2 => (V.ref a :: vs).length = ps.length ∧ prom X.K F (V.ref a :: vs) H2 Q (WE W σ) := by
    refine ⟨r, mu, S, hS, hE, hp.bnd.imp fun x S1 mu1 H1 ex hS1 q1 v rv => ?_⟩
    obtain ⟨a, C', dx, fs, rfl, hC', h1, h2, q2⟩ := isIns_of hS1 rv q1.bnd
    obtain rfl := hC.uniq hC'
    refine ⟨a, dx, fs, rfl, h1, h2, r, mu1, S1, hS1, hE.mono ex, q2.bnd.imp fun ds S2 mu2 H2 ex2 hS2 q3 vs rvs => ?_⟩
    have rr : Reps X.K mu2 H2 (V.ref a :: vs) (x :: ds) := .cons (rv.mono ex2) rvs
    refine ⟨?_, prom_of hS2 rr q3⟩
    rw [rr.length]
    refine Decidable.byContradiction fun z => ?_
    rw [ar _ S2 z] at q3
    exact q3
  refine PySem.W.methodCall_KW (pl := pl) (thn (ho.run pins s σ H _ I q1) fun u s1 z => ?_) ht
  obtain ⟨x, H1, I1, rx, a, dx, fs, rfl, ea, l, q2⟩ := z
  obtain rfl : u = Value.ref a := rx
  refine getmeth_ok I1 ea c1 c2 l ?_
  refine PySem.W.callWith_K (first := [.ref a]) (h₀ := X.base) I.ok.mod.kin c2.kp (thn (ha.run pos pins s1 σ H1 _ I1 q2) fun us s2 z => ?_) hst hpl
  obtain ⟨vs, H2, I2, rvs, hl, hpr⟩ := z
  have rv2 : Vals (V.ref a :: vs) (Value.ref a :: us) := .cons rfl rvs
  refine ⟨I2.kIn, runG (ar := ⟨Value.ref a :: us, []⟩) (us := Value.ref a :: us) G hr hgd tk I2 ?_ rv2 hl hpr⟩
  have b := hb s2 (Value.ref a :: us) I2.kIn (by rw [List.append_nil, ← rv2.length]; exact hl)
  rwa [List.append_nil] at b
end
end Fa
namespace Fa
open PySem PySem.Spec PyProof.Rows L2
/-! ### o.f = v -/
def putFD (f : Str) (v : D) : List (Str × D) → List (Str × D)
  | [] => [(f, v)]
  | (g, x) :: r => if g = f then (g, v) :: r else (g, x) :: putFD f v r
def setF (cs : List Str) (f : Str) : D → D → M Unit := fun x d S => match x with
  | .loc n => match S[n]? with
    | some (.ins cn fs) => if cn ∈ cs ∧ fs.length < 1000 then .ok () (S.set n (.ins cn (putFD f d fs))) else .bad
    | _ => .bad
  | _ => .bad
def gFld (cs : List Str) (f : Str) (mo : Env → M D) : Tg := fun d r => bnd (mo r) fun o => bnd (setF cs f o d) fun _ => ret r
section
variable {K : PySem.W.Frag} {X : Cx}
theorem kreps_putF {mu : List Addr} {H : Hp} {f : Str} {v : V} {d : D} (rv : Rep K mu H v d) : ∀ {vs : List (Str × V)} {ds : List (Str × D)}, KReps K mu H vs ds → KReps K mu H (putF f v vs) (putFD f d ds)
  | _, _, .nil => .cons ⟨rfl, rv⟩ .nil
  | (a, w) :: vs, (b, e) :: ds, .cons h t => by
    obtain ⟨h1, h2⟩ := h
    have h1 : a = b := h1
    subst h1
    unfold putF putFD
    by_cases q : a = f
    · rw [if_pos q, if_pos q]
      exact .cons ⟨rfl, rv⟩ t
    · rw [if_neg q, if_neg q]
      exact .cons ⟨rfl, h2⟩ (kreps_putF rv t)
theorem sg_fld {W : WX} {o : Expr} {f : Str} {mo : Env → M D} {pos : Pos} {cs : List Str} (hc : ∀ cn ∈ cs, AtI X.K cn f) (ho : SE X W o mo) : SG X W (.Attribute o f pos) [] (gFld cs f mo) := ⟨fun pins s σ H v u Q I rv q => by
  obtain ⟨r, mu, S, d, hS, he, hr, hp⟩ := q
  rw [arm_assign_Attribute]
  have q1 : rdE X.K W mo σ H fun x H1 => ∃ a C dx fs, x = .ref a ∧ H1 a = some (.ins C dx fs) ∧ Cls X.K C ∧ NoAttr X.K C f ∧ fs.length < 1000 ∧ Q σ (upd H1 a (.ins C dx (putF f v fs))) := by
    refine ⟨r, mu, S, hS, he, hp.bnd.imp fun x S1 mu1 H1 ex hS1 q1 ov rov => ?_⟩
    cases rov with
    | loc hn =>
      obtain ⟨ob, ho, qo⟩ := hS1.obj hn
      unfold bnd setF at q1
      simp only [ho] at q1
      cases ob with
      | ins cn fs =>
        simp only at q1
        by_cases hm : cn ∈ cs ∧ fs.length < 1000
        · rw [if_pos hm] at q1
          obtain ⟨C, dx, vs, hC, h1, hrs⟩ := qo
          obtain ⟨C', hC', c1, c2⟩ := (hc cn hm.1).ex
          obtain rfl := hC.uniq hC'
          have ext := ext_put (u := .ins C dx (putF f v vs)) hn h1 trivial
          refine ⟨_, C, dx, vs, rfl, h1, c1, c2, by rw [Paired.length hrs]; exact hm.2, ?_⟩
          exact q1 mu1 _ ext (hS1.put (u' := .ins C dx vs) hn ext ⟨C, dx, _, hC, upd_same, (kreps_putF (hr.mono ex) hrs).mono ext⟩) σ ((he.mono ex).mono ext) rfl
        · rw [if_neg hm] at q1
          exact q1.elim
      | _ => exact q1.elim
    | _ => exact q1.elim
  refine wpAny_bind (wpAny_holding (thn (ho.run pins s σ H _ I q1) fun ov s1 z => ?_))
  obtain ⟨x, H1, I1, r1, a, C, dx, fs, rfl, h1, c1, c2, hl, q2⟩ := z
  obtain rfl : ov = Value.ref a := r1
  refine wpAny_bind (wpAny_standAt (wpAny_bind (wpAny_holding (setattr_ok I1 h1 c1 c2 hl rv fun s2 I2 => ?_))))
  exact wpAny_release ⟨σ, _, I2, q2⟩⟩
theorem setF_noerr {cs : List Str} {f : Str} {o d : D} {S : Sto} {x : Exn} {S' : Sto} (h : setF cs f o d S = .err x S') : False := by
  unfold setF at h
  cases o with
  | loc n =>
    cases e : S[n]? with
    | none => simp only [e] at h; cases h
    | some ob =>
      cases ob with
      | ins cn fs =>
        simp only [e] at h
        by_cases hm : cn ∈ cs ∧ fs.length < 1000
        · rw [if_pos hm] at h; cases h
        · rw [if_neg hm] at h; cases h
      | _ => simp only [e] at h; cases h
  | _ => cases h
theorem gFld_noerr {cs : List Str} {f : Str} {i : Nat} : ∀ d r S x S', gFld cs f (mVar i) d r S ≠ .err x S' := fun d r S x S' h => by
  have h' : bnd (mVar i r) (fun o => bnd (setF cs f o d) fun _ => ret r) S = .err x S' := h
  unfold bnd at h'
  cases e : mVar i r S with
  | ok o S1 =>
    rw [e] at h'
    simp only at h'
    cases e2 : setF cs f o d S1 with
    | ok u S2 => rw [e2] at h'; cases h'
    | err y S2 => exact setF_noerr e2
    | bad => rw [e2] at h'; cases h'
  | err y S1 =>
    unfold mVar at e
    cases e3 : r[i]? with
    | none => rw [e3] at e; cases e
    | some q =>
      cases q with
      | none => rw [e3] at e; cases e
      | some d => rw [e3] at e; cases e
  | bad => rw [e] at h'; cases h'
/-! ### C(..) -/
structure MkI (K : PySem.W.Frag) (cn : Str) (f : Addr) (C : Addr) : Prop where
  at_ : ClsAt K cn C
  mks : Mk K C f
def mkD (cn : Str) (F : List D → M D) : List D → M D := fun ds S => match F (.loc S.length :: ds) (S ++ [.ins cn []]) with
  | .ok .non S' => .ok (.loc S.length) S'
  | .err x S' => .err x S'
  | _ => .bad
variable {W : WX} {k : Nat} {f C : Addr} {fd : FuncData} {ps : List Str} {F : List D → M D} {cn x : Str} {p pos : Pos} {e : Expr} {es : List Expr} {ms : Env → M (List D)}
theorem se_make (G : FnG X.prog X.w X.K X.mg X.base k f fd ps F) (hr : Room (k + 1) X.A) (hgd : X.A.guards = some []) (hgm : ∀ us, (X.A.under (.builtin "type.__call__" ⟨.ref C :: us, []⟩)).guards = some []) (tk : Takes X W) (M : MkI X.K cn f C) (hg : Gl X x) (hm : X.mg x = some (.ref C)) (hb : Binds X.K fd ps []) (ar : arity ps.length F)
    (ha : SA X W (e :: es) ms) (hdb : (x == ("__debug__" : Str)) = false := by decide) (he : starEach (e :: es) X.env = (false, eval e X.env) :: starEach es X.env := by rfl) (hpl : (backTo pos (starEach es X.env)).any (·.1) = false := by rfl) :
    SE X W (.Call (.Name x p) (e :: es) [] pos) (mA (mkD cn F) ms) := by
  constructor
  intro pins s σ H Q I q
  obtain ⟨r, mu, S, hS, hE, hp⟩ := q
  refine wpAny_Call_Name_kw (ld_glob I hg hm ?_ hdb)
  have q1 : rdA X.K W ms σ H fun vs H1 => ∀ x dx, H1 x = none → H1 dx = none → dx ≠ x → (V.ref x :: vs).length = ps.length ∧ prom X.K F (V.ref x :: vs) (upd (upd H1 dx (.own x)) x (.ins C dx [])) (fun v H2 => v = .non ∧ Q (.ref x) H2) (WE W σ) := by
    refine ⟨r, mu, S, hS, hE, hp.bnd.imp fun ds S1 mu1 H1 ex hS1 q1 vs rvs x dx hx hdx hne => ?_⟩
    have e1 : Ext mu1 H1 mu1 (upd H1 dx (.own x)) := ext_tup hdx
    have hx2 : upd H1 dx (.own x) x = none := by rw [upd_ne (Ne.symm hne)]; exact hx
    have e2 : Ext mu1 (upd H1 dx (.own x)) (mu1 ++ [x]) (upd (upd H1 dx (.own x)) x (.ins C dx [])) := ext_new hx2
    have hS2 : HRep X.K (mu1 ++ [x]) (upd (upd H1 dx (.own x)) x (.ins C dx [])) (S1 ++ [.ins cn []]) := (hS1.tup hdx).new hx2 ⟨C, dx, [], M.at_, upd_same, .nil⟩
    have rx : Rep X.K (mu1 ++ [x]) (upd (upd H1 dx (.own x)) x (.ins C dx [])) (.ref x) (.loc S1.length) := .loc (by rw [hS1.len]; simp)
    have rr : Reps X.K (mu1 ++ [x]) (upd (upd H1 dx (.own x)) x (.ins C dx [])) (V.ref x :: vs) (.loc S1.length :: ds) := .cons rx ((rvs.mono e1).mono e2)
    have q2 : Post X.K W σ mu1 H1 (fun d _ mu' H' => ∀ v, Rep X.K mu' H' v d → Q v H') (match F (.loc S1.length :: ds) (S1 ++ [.ins cn []]) with
      | .ok .non S' => .ok (.loc S1.length) S'
      | .err x S' => .err x S'
      | _ => .bad) := q1
    refine ⟨?_, prom_of hS2 rr ?_⟩
    · rw [rr.length]
      refine Decidable.byContradiction fun z => ?_
      rw [ar _ _ z] at q2
      exact q2
    · cases eF : F (.loc S1.length :: ds) (S1 ++ [.ins cn []]) with
      | ok d S2 =>
        rw [eF] at q2
        cases d with
        | non =>
          intro m3 H3 e3 h3 v rv
          cases rv
          exact ⟨rfl, q2 m3 H3 ((e1.trans e2).trans e3) h3 _ (rx.mono e3)⟩
        | _ => exact q2.elim
      | err z S2 =>
        rw [eF] at q2
        exact fun m3 H3 cls dd e3 h3 hx3 => q2 m3 H3 cls dd ((e1.trans e2).trans e3) h3 hx3
      | bad => rw [eF] at q2; exact q2.elim
  refine PySem.W.callWith_K (h₀ := X.base) I.ok.mod.kin M.mks.kp (thn (ha.run pos pins s σ H _ I q1) fun us s1 z => ?_) he hpl
  obtain ⟨vs, H1, I1, rvs, hq⟩ := z
  refine ⟨I1.kIn, ?_⟩
  obtain ⟨hl, hpr⟩ := hq (s1.heap.objs.size + 1) s1.heap.objs.size (I1.hok.fresh (Nat.le_succ _)) (I1.hok.fresh (Nat.le_refl _)) (Nat.ne_of_lt (Nat.lt_succ_self _))
  have I2 := Inv.made (C := C) I1
  have r2 : Vals (V.ref (s1.heap.objs.size + 1) :: vs) (Value.ref (s1.heap.objs.size + 1) :: us) := .cons rfl rvs
  have hb2 : BindsTo { s1 with heap := (s1.heap.push PySem.W.emptyDict).push (PySem.W.instObj C s1.heap.objs.size) } fd ⟨Value.ref (s1.heap.objs.size + 1) :: us, []⟩ (ps.zip (Value.ref (s1.heap.objs.size + 1) :: us)) := by
    have b := hb { s1 with heap := (s1.heap.push PySem.W.emptyDict).push (PySem.W.instObj C s1.heap.objs.size) } (Value.ref (s1.heap.objs.size + 1) :: us) I2.kIn (by rw [List.append_nil, ← r2.length]; exact hl)
    rwa [List.append_nil] at b
  refine wpAny_call (make_map (f := f) I1.kIn M.mks.makes M.mks.init (beq_iff_eq.mp M.mks.fn) (codeAny_mono (G _ X.stack _ _ ⟨Value.ref (s1.heap.objs.size + 1) :: us, []⟩ (Value.ref (s1.heap.objs.size + 1) :: us) _ _ (WE W σ) (hr.make C us []) (hgm us)
    (I2.env0.make C us []) hb2 r2 hl hpr) fun r s' hq' => ?_))
  cases r with
  | error y => exact passAt tk σ pins _ _ y s' I2 hq'
  | ok fl =>
    cases fl with
    | ret u =>
      obtain ⟨v, H', I3, rv, ev, q3⟩ := I2.after hq'
      subst ev
      exact ⟨rv, ⟨V.ref (s1.heap.objs.size + 1), H', I3, rfl, q3⟩⟩
    | _ => exact False.elim hq'
end
end Fa
namespace Fa
open PySem PySem.Spec PyProof.Rows L2
section
variable {K : PySem.W.Frag} {X : Cx}
/-! ### dicts: d[k], d[k] = v, k in d, {} -/
def valKD {κ : Type} [DecidableEq κ] (kvs : List (κ × D)) (k : κ) : Option D := (kvs.find? fun kv => decide (kv.1 = k)).map (·.2)
theorem kreps_val {κ : Type} [DecidableEq κ] {mu : List Addr} {H : Hp} {k : κ} : ∀ {vs : List (κ × V)} {ds : List (κ × D)}, KReps K mu H vs ds → (valV vs k = none ∧ valKD ds k = none) ∨ ∃ v d, valV vs k = some v ∧ valKD ds k = some d ∧ Rep K mu H v d
  | _, _, .nil => .inl ⟨rfl, rfl⟩
  | (a, v) :: vs, (b, d) :: ds, .cons h t => by
    obtain ⟨h1, h2⟩ := h
    have h1 : a = b := h1
    subst h1
    unfold valV valKD
    rw [List.find?_cons, List.find?_cons]
    by_cases q : a = k
    · simp only [decide_eq_true q]
      exact .inr ⟨v, d, rfl, rfl, h2⟩
    · simp only [decide_eq_false q]
      exact kreps_val t
/-- the dict at the handle, its value at the key -/
def dget (S : Sto) (x k : D) : Option (Option D) := match x with
  | .loc n => match S[n]? with
    | some (.dct kvs) => match keyOf k with
      | some key => some (valKD kvs key)
      | none => none
    | some (.dcT kvs) => match k with
      | .ttp ds => match keysOf ds with
        | some key => some (valKD kvs key)
        | none => none
      | _ => none
    | _ => none
  | _ => none
theorem dget_of {mu : List Addr} {H : Hp} {S : Sto} {x k : D} {v y : V} {o : Option D} (hS : HRep K mu H S) (rv : Rep K mu H v x) (ry : Rep K mu H y k) (h : dget S x k = some o) :
    ∃ a o', v = .ref a ∧ DGet H a y o' ∧ ((o' = none ∧ o = none) ∨ ∃ w d, o' = some w ∧ o = some d ∧ Rep K mu H w d) := by
  unfold dget at h
  cases rv with
  | loc hn =>
    obtain ⟨ob, ho, qo⟩ := hS.obj hn
    simp only [ho] at h
    cases ob with
    | dct kvs =>
      obtain ⟨vs, h1, hr⟩ := qo
      cases e : keyOf k with
      | none => simp only [e] at h; cases h
      | some key =>
        simp only [e] at h
        cases h
        rw [keyOf_of ry e]
        refine ⟨_, _, rfl, .k h1, ?_⟩
        rcases kreps_val (k := key) hr with ⟨e1, e2⟩ | ⟨w, d, e1, e2, r⟩
        · exact .inl ⟨e1, e2⟩
        · exact .inr ⟨w, d, e1, e2, r⟩
    | dcT kvs =>
      obtain ⟨vs, h1, hr⟩ := qo
      cases ry with
      | ttp hq hrs =>
        rename_i ad ws ds
        cases e : keysOf ds with
        | none => simp only [e] at h; cases h
        | some key =>
          simp only [e] at h
          cases h
          refine ⟨_, _, rfl, .t h1 (by rw [← keysOf_of hrs e]; exact hq), ?_⟩
          rcases kreps_val (k := key) hr with ⟨e1, e2⟩ | ⟨w, d, e1, e2, r⟩
          · exact .inl ⟨e1, e2⟩
          · exact .inr ⟨w, d, e1, e2, r⟩
      | _ => cases h
    | _ => cases h
  | _ => cases h
def ixA : D → D → M D := fun x k S => match dget S x k with
  | some (some d) => .ok d S
  | some none => .bad
  | none => ixD x k S
def rIxA (K : PySem.W.Frag) : R2 := fun x y H Q => rIx K x y H Q ∨ ∃ a v, x = .ref a ∧ DGet H a y (some v) ∧ Q v H
theorem ix_dct (hu : X.A.units + 1 < cLine) : IxR X (fun x y H Q => ∃ a v, x = .ref a ∧ DGet H a y (some v) ∧ Q v H) := by
  intro value slice pins s σ H x y v u Q I rx ry h hs
  obtain ⟨a, w, rfl, g, q⟩ := h
  cases rx
  exact tail_any (ops := [.ref a, u]) (dict_typeIs I g) PySem.F.slot_dict_getitem.lookup (d_getItem hu I g ry fun w' s3 I3 rw' => ⟨w, H, I3, rw', q⟩) hs
theorem ix_all (hu : X.A.units + 1 < cLine) : IxR X (rIxA X.K) := ix_seq.or (ix_dct hu)
theorem o_ixA : Op2 K (rIxA K) ixA := by
  intro W σ mu H S x y v w Q hS rx ry hp
  unfold ixA at hp
  cases e : dget S x y with
  | none => rw [e] at hp; exact .inl (o_ix W σ mu H S x y v w Q hS rx ry hp)
  | some o =>
    rw [e] at hp
    cases o with
    | none => exact hp.elim
    | some d =>
      obtain ⟨a, o', rfl, g, q⟩ := dget_of hS rx ry e
      rcases q with ⟨_, z⟩ | ⟨w', d', rfl, z, r⟩
      · cases z
      · cases z
        exact .inr ⟨a, w', rfl, g, hp mu H Ext.refl hS _ r⟩
def inDA (neg : Bool) : D → D → M D := fun x y S => match dget S y x with
  | some o => .ok (.bl (if neg then !o.isSome else o.isSome)) S
  | none => inD neg x y S
def rDIn (neg : Bool) : R2 := fun y x H Q => ∃ a o, x = .ref a ∧ DGet H a y o ∧ Q (.bl (if neg then !o.isSome else o.isSome)) H
theorem op_din (hu : X.A.units + 1 < cLine) : OpR X (compareOp .In) (rDIn false) := by
  intro pins s σ H x y v u Q I rx ry h
  obtain ⟨a, o, rfl, g, q⟩ := h
  cases ry
  exact d_in hu I g rx fun s3 I3 => ⟨.bl o.isSome, H, I3, rfl, q⟩
theorem op_dnotin (hu : X.A.units + 1 < cLine) : OpR X (compareOp .NotIn) (rDIn true) := by
  intro pins s σ H x y v u Q I rx ry h
  obtain ⟨a, o, rfl, g, q⟩ := h
  cases ry
  exact d_notIn hu I g rx fun s3 I3 => ⟨.bl (!o.isSome), H, I3, rfl, q⟩
theorem op_inB (hu : X.A.units + 65 < cLine) : OpR X (compareOp .In) (fun x y H Q => rInA X.K x y H Q ∨ rDIn false x y H Q) := (op_inA hu).or (op_din (by omega))
theorem op_notInB (hu : X.A.units + 65 < cLine) : OpR X (compareOp .NotIn) (fun x y H Q => rNotInA X.K x y H Q ∨ rDIn true x y H Q) := (op_notInA hu).or (op_dnotin (by omega))
theorem din_of {W : WX} {σ : L2.St} {mu : List Addr} {H : Hp} {S : Sto} {x y : D} {v w : V} {Q : VK} {neg : Bool} {o : Option D} (hS : HRep K mu H S) (rx : Rep K mu H v x) (ry : Rep K mu H w y) (e : dget S y x = some o) (hp : Q (.bl (if neg then !o.isSome else o.isSome)) H) : rDIn neg v w H Q := by
  obtain ⟨a, o', rfl, g, q⟩ := dget_of hS ry rx e
  refine ⟨a, o', rfl, g, ?_⟩
  rcases q with ⟨rfl, rfl⟩ | ⟨w', d', rfl, rfl, r⟩ <;> exact hp
theorem o_inB : Op2 K (fun x y H Q => rInA K x y H Q ∨ rDIn false x y H Q) (inDA false) := by
  intro W σ mu H S x y v w Q hS rx ry hp
  unfold inDA at hp
  cases e : dget S y x with
  | none => rw [e] at hp; exact .inl (o_in W σ mu H S x y v w Q hS rx ry hp)
  | some o => rw [e] at hp; exact .inr (din_of (W := W) (σ := σ) hS rx ry e (hp mu H Ext.refl hS _ (.bl _)))
theorem o_notInB : Op2 K (fun x y H Q => rNotInA K x y H Q ∨ rDIn true x y H Q) (inDA true) := by
  intro W σ mu H S x y v w Q hS rx ry hp
  unfold inDA at hp
  cases e : dget S y x with
  | none => rw [e] at hp; exact .inl (o_notIn W σ mu H S x y v w Q hS rx ry hp)
  | some o => rw [e] at hp; exact .inr (din_of (W := W) (σ := σ) hS rx ry e (hp mu H Ext.refl hS _ (.bl _)))
def dct0D : Env → M D := fun _ S => .ok (.loc S.length) (S ++ [.dct []])
theorem se_dct0 {W : WX} {pos : Pos} : SE X W (.Dict [] [] pos) dct0D := peI pe_dnewK fun σ H Q q => by
  obtain ⟨r, mu, S, hS, he, hp⟩ := q
  intro p hn
  refine hp _ _ (ext_new hn) (hS.new hn ⟨[], upd_same, .nil⟩) _ (.loc ?_)
  rw [hS.len]
  simp
/-! d[k] = v or l[i] = v -/
def setA : D → D → D → M Unit := fun x k d S => match x with
  | .loc n => match S[n]? with
    | some (.lst ds) => setD (.loc n) k d S
    | _ => match putD n k d S with
      | some S' => .ok () S'
      | none => .bad
  | _ => .bad
def gSubA (mo mi : Env → M D) : Tg := fun d r => bnd (mo r) fun o => bnd (mi r) fun i => bnd (setA o i d) fun _ => ret r
def rSetAll : TSet := fun o i v H Q => rSetL o i v H Q ∨ rSetD o i v H Q
theorem set_all (hu : X.A.units + 1 < cLine) : PSet X rSetAll := by
  intro pins s σ H o i v ov iv u Q I ro ri rv h
  rcases h with h | h
  · exact set_list pins s σ H o i v ov iv u Q I ro ri rv h
  · exact set_dict hu pins s σ H o i v ov iv u Q I ro ri rv h
theorem sg_subA {W : WX} {o i : Expr} {mo mi : Env → M D} {pos : Pos} (hu : X.A.units + 1 < cLine) (ho : SE X W o mo) (hi : SE X W i mi)
    (ha : ∀ v, assign (.Subscript o i pos) X.env v = (do
      let ov ← holding [v] (eval o X.env)
      let iv ← holding [v, ov] (eval i X.env)
      standAt pos
      holding [v, ov, iv] (setItem ov iv v)
      release [v, ov, iv] []) := by intro _; rfl) : SG X W (.Subscript o i pos) [] (gSubA mo mi) := ⟨fun p s σ H v u Q I rv q => (pg_sub ho hi (set_all hu) ha).run p s σ H v u Q I rv (by
  obtain ⟨r, mu, S, d, hS, he, hr, hp⟩ := q
  refine ⟨r, mu, S, hS, he, hp.bnd.imp fun x S1 mu1 H1 ex hS1 q1 ov rov => ?_⟩
  refine ⟨r, mu1, S1, hS1, he.mono ex, q1.bnd.imp fun y S2 mu2 H2 ex2 hS2 q2 iv riv => ?_⟩
  have rov2 := rov.mono ex2
  cases rov2 <;> first | exact q2.elim | skip
  rename_i a n hn
  obtain ⟨ob, hob, qb⟩ := hS2.obj hn
  have fin : ∀ S', putD n y d S2 = some S' → Post X.K W σ mu2 H2 (fun r' _ mu' H' => ∀ σ', ERep X.K mu' H' σ' r' → wipe σ' [] = wipe σ [] → Q σ' H') (ret r S') → rSetAll (.ref a) iv v H2 fun H3 => Q σ H3 := fun S' e q4 => by
    obtain ⟨H6, g, ext, h6⟩ := putD_of hS2 hn riv ((hr.mono ex).mono ex2) e
    exact .inr ⟨a, H6, rfl, g, q4 mu2 H6 ext h6 σ (((he.mono ex).mono ex2).mono ext) rfl⟩
  unfold bnd setA at q2
  simp only [hob] at q2
  cases ob with
  | lst ds =>
    simp only at q2
    cases riv <;> first | exact q2.elim | skip
    rename_i k
    unfold setD at q2
    simp only [hob] at q2
    obtain ⟨vs, h1, hrs⟩ := qb
    cases e : ixN ds.length k with
    | none => rw [e] at q2; exact q2.elim
    | some j =>
      rw [e] at q2
      have ext : Ext mu2 H2 mu2 (upd H2 a (.lst (vs.set j v))) := ext_put hn h1 trivial
      refine .inl ⟨a, vs, k, j, rfl, rfl, h1, by rw [hrs.length]; exact e, ?_⟩
      exact q2 mu2 _ ext (hS2.put (u' := .lst vs) hn ext ⟨_, upd_same, (hrs.set ((hr.mono ex).mono ex2) j).mono ext⟩) σ (((he.mono ex).mono ex2).mono ext) rfl
  | _ =>
    simp only at q2
    cases e : putD n y d S2 with
    | none => rw [e] at q2; exact q2.elim
    | some S' => rw [e] at q2; exact fin S' e q2)⟩
end
end Fa
namespace Fa
open PySem PySem.Spec PyProof.Rows L2
section
variable {X : Cx} {W : WX}
/-! ### zip of two tuples -/
def zipOf : List D → M Src
  | [.tup xs, .tup ys] => ret (.zip xs ys)
  | _ => fail
def mZip (m : Env → M (List D)) : Env → M Src := fun r => bnd (m r) zipOf
theorem si_zip {e e2 : Expr} {ms : Env → M (List D)} {p pos tpos : Pos} {elts : List Expr} {kk : Nat} (hg : Gl X "zip") (hm : X.mg "zip" = none) (ha : SA X W [e, e2] ms)
    (hs : starEach [e, e2] X.env = (false, eval e X.env) :: starEach [e2] X.env := by rfl) (hpl : (backTo pos (starEach [e2] X.env)).any (·.1) = false := by rfl) :
    SI X W (.Tuple elts kk tpos) (.Call (.Name "zip" p) [e, e2] [] pos) (mZip ms) := ⟨fun pins s σ H R I q => (RZ.pi_zipA hg hm ha hs hpl).run pins s σ H R I (by
  obtain ⟨r, mu, S, hS, he, hp⟩ := q
  refine ⟨r, mu, S, hS, he, hp.bnd.imp fun xs S1 mu1 H1 ex hS1 q1 vs rv => ?_⟩
  unfold zipOf at q1
  split at q1
  · rename_i xs ys
    cases rv with
    | cons r1 rv =>
      cases rv with
      | cons r2 rv =>
        cases rv
        cases r1 with
        | tup d1 h1 rs1 =>
          cases r2 with
          | tup d2 h2 rs2 =>
            refine ⟨_, _, _, _, rfl, .inr ⟨sqT_t h1, sqT_t h2, ?_⟩⟩
            exact q1 mu1 H1 Ext.refl hS1 _ ⟨_, _, _, _, rs1, rs2, sqT_t h1, sqT_t h2, rfl⟩
  · exact q1.elim)⟩
/-- the arounds of a class's call -/
theorem hgm_of {A : Around} {C : Addr} (h : A.guards = some []) : ∀ us, (A.under (.builtin "type.__call__" ⟨.ref C :: us, []⟩)).guards = some [] := fun us => h
/-! three names at once -/
def sPar3 (i j l : Nat) (ms : Env → M (List D)) : Env → Sto → Out := bndO ms fun ds r S => match ds with
  | [x, y, z] => .nx (((r.set i (some x)).set j (some y)).set l (some z)) S
  | _ => .bad
theorem ss_par3 {i j l : Nat} {x y z : Str} {a b c : Expr} {ms : Env → M (List D)} {px py pz pt pos : Pos} {kt k2 pt2} (hc : X.calm = true) (hN : X.N.Nodup) (hi : X.N[i]? = some x) (hj : X.N[j]? = some y) (hl : X.N[l]? = some z) (hij : i ≠ j) (hil : i ≠ l) (hjl : j ≠ l)
    (hx : X.env.scope.names.lookup x = some .local) (hy : X.env.scope.names.lookup y = some .local) (hz : X.env.scope.names.lookup z = some .local) (ha : SA X W [a, b, c] ms)
    (hw : swappedStores [.Tuple [.Name x px, .Name y py, .Name z pz] kt pt] (.Tuple [a, b, c] k2 pt2) X.env = pure (some [x, y, z]))
    (hs : swapsWithSole [.Tuple [.Name x px, .Name y py, .Name z pz] kt pt] (.Tuple [a, b, c] k2 pt2) pos.line X.env = pure false := by rfl) :
    SS X W (.Assign [.Tuple [.Name x px, .Name y py, .Name z pz] kt pt] (.Tuple [a, b, c] k2 pt2) pos) (sPar3 i j l ms) := psI (ps_par3 hc hN hi hj hl hij hil hjl hx hy hz ha hw hs) fun D σ H q => by
  obtain ⟨r, mu, S, hS, he, hp⟩ := q
  refine ⟨r, mu, S, hS, he, ?_⟩
  unfold sPar3 bndO at hp
  cases e : ms r S with
  | ok d S' =>
    rw [e] at hp
    intro m2 H2 e2 h2 vs rv
    cases rv with
    | nil => exact hp.elim
    | cons r1 t =>
      cases t with
      | nil => exact hp.elim
      | cons r2 t =>
        cases t with
        | nil => exact hp.elim
        | cons r3 t =>
          cases t with
          | nil => exact ⟨_, _, _, rfl, hp m2 H2 _ e2 h2 ((((he.mono e2).set r1 i).set r2 j).set r3 l)⟩
          | cons _ _ => exact hp.elim
  | err z S' => rw [e] at hp; exact fun m2 H2 cl dd e2 h2 rx => hp m2 H2 σ cl dd e2 h2 (he.mono e2) rx
  | bad => rw [e] at hp; exact hp
/-! ### tuple * int, every count -/
theorem tuple_mul1 (l : Addr) (items : Array Value) (n : Nat) (dd : Option Addr) (sl : Array (Option Value)) (x : Int) (u : Tok) (c0 : (decide (x < -(2 ^ 63)) || decide (x ≥ 2 ^ 63)) = false) (c1 : (items.isEmpty || x == 1) = true) :
    Meets (Builtin.«tuple.__mul__» ⟨[.ref l, .int x u], []⟩) (fun _ R s => s.heap.get? l = some { cls := .type "tuple", dict := dd, data := .seq items n, slots := sl } ∧
      R (.ok (.ret (Value.ref l))) s) :=
  .of_wp fun prog w A R s h => by
    obtain ⟨hp, g, d, tk, os⟩ := s
    obtain ⟨hl, h⟩ := h
    have f1 := AutoSeq1.idx_int
    wp_walk using wpAny_loadPart' hl
    repeat (first
      | (refine wpAny_ite_false (decide_eq_false (by rw [c0]; exact Bool.false_ne_true)) ?_; wp_walk using wpAny_loadPart' hl)
      | (refine wpAny_ite_true (decide_eq_true c1) ?_; wp_walk using wpAny_loadPart' hl))
    exact ⟨_, rfl, h⟩
theorem tuple_mul0 (l : Addr) (items : Array Value) (n : Nat) (dd : Option Addr) (sl : Array (Option Value)) (x : Int) (u : Tok) (c0 : (decide (x < -(2 ^ 63)) || decide (x ≥ 2 ^ 63)) = false) (c1 : (items.isEmpty || x == 1) = false) (c2 : (decide (x ≤ 0) || items.isEmpty) = true) :
    Meets (Builtin.«tuple.__mul__» ⟨[.ref l, .int x u], []⟩) (fun _ R s => s.heap.get? l = some { cls := .type "tuple", dict := dd, data := .seq items n, slots := sl } ∧
      R (.ok (.ret (Value.ref s.heap.objs.size))) { s with heap := s.heap.push { cls := Value.type "tuple", data := Data.seq #[] }, toks := s.toks }) :=
  .of_wp fun prog w A R s h => by
    obtain ⟨hp, g, d, tk, os⟩ := s
    obtain ⟨hl, h⟩ := h
    have f1 := AutoSeq1.idx_int
    wp_walk using wpAny_loadPart' hl
    repeat (first
      | (refine wpAny_ite_false (decide_eq_false (by rw [c0]; exact Bool.false_ne_true)) ?_; wp_walk using wpAny_loadPart' hl)
      | (refine wpAny_ite_false (decide_eq_false (by rw [c1]; exact Bool.false_ne_true)) ?_; wp_walk using wpAny_loadPart' hl)
      | (refine wpAny_ite_true (decide_eq_true c2) ?_; wp_walk using wpAny_loadPart' hl))
    exact ⟨_, rfl, h⟩
def rRep1 (K : PySem.W.Frag) : R2 := fun x y H Q => ∃ l k xs, x = .ref l ∧ y = .int k ∧ SqT K H l xs ∧ (xs = [] ∨ k = 1) ∧ -1000 ≤ k ∧ k ≤ 1000 ∧ Q (.ref l) H
theorem op_rep1 : OpR X (binaryOp .Mult) (rRep1 X.K) := by
  intro pins s σ H x y v u Q I rx ry h
  obtain ⟨l, k, xs, rfl, rfl, hT, hne, h1, h2, q⟩ := h
  cases rx
  obtain ⟨t, rfl⟩ := ry
  obtain ⟨its, r, ⟨⟨cls, dd, data, sl⟩, ho, hc, n, hd⟩, hs⟩ := I.tuple hT
  simp only at hc hd
  subst hc hd
  have hle : its.length = xs.length := r.length.symm
  have c0 : (decide (k < -(2 ^ 63)) || decide (k ≥ 2 ^ 63)) = false := by
    rw [decide_eq_false (by omega), decide_eq_false (by omega)] <;> rfl
  have c1 : (its.toArray.isEmpty || k == 1) = true := by
    rcases hne with rfl | rfl
    · have : its = [] := List.eq_nil_of_length_eq_zero hle
      subst this
      rfl
    · simp
  exact wpAny_binaryOp_repeat_ref (T := "tuple") (U := "int") (by decide) ⟨_, ho, rfl⟩ (fun s' => typeIs_int s' k t) noFill_tuple_mul F.fills_int_mul F.slot_int_rmul repeat_tuple F.slot_int_index.lookup
    (call_meets F.slot_int_rmul (typeIs_int s k t) F.entry_int_rmul (F.args_int_rmul_2 _ _) (int_rmul_tuple k t l its.toArray n dd sl)
      ⟨ho, rfl, ⟨_, ho, rfl⟩, call_meets F.slot_tuple_mul ⟨_, ho, rfl⟩ F.entry_tuple_mul (F.args_tuple_mul_2 _ _) (tuple_mul1 l its.toArray n dd sl k t c0 c1) ⟨ho, ⟨.ref l, H, I, rfl, q⟩⟩⟩)
def rRep0 (K : PySem.W.Frag) : R2 := fun x y H Q => ∃ l k xs, x = .ref l ∧ y = .int k ∧ SqT K H l xs ∧ xs ≠ [] ∧ -1000 ≤ k ∧ k ≤ 0 ∧ NewF H [] Q
theorem op_rep0 : OpR X (binaryOp .Mult) (rRep0 X.K) := by
  intro pins s σ H x y v u Q I rx ry h
  obtain ⟨l, k, xs, rfl, rfl, hT, hne, h1, h2, q⟩ := h
  cases rx
  obtain ⟨t, rfl⟩ := ry
  obtain ⟨its, r, ⟨⟨cls, dd, data, sl⟩, ho, hc, n, hd⟩, hs⟩ := I.tuple hT
  simp only at hc hd
  subst hc hd
  have hle : its.length = xs.length := r.length.symm
  have hi : its.toArray.isEmpty = false := by
    cases its with
    | nil => exact absurd (List.eq_nil_of_length_eq_zero hle.symm) hne
    | cons a b => rfl
  have c0 : (decide (k < -(2 ^ 63)) || decide (k ≥ 2 ^ 63)) = false := by
    rw [decide_eq_false (by omega), decide_eq_false (by omega)] <;> rfl
  have c1 : (its.toArray.isEmpty || k == 1) = false := by
    rw [hi, Bool.false_or]
    exact beq_eq_false_iff_ne.mpr (by omega)
  have c2 : (decide (k ≤ 0) || its.toArray.isEmpty) = true := by
    rw [decide_eq_true h2]
    rfl
  refine wpAny_binaryOp_repeat_ref (T := "tuple") (U := "int") (by decide) ⟨_, ho, rfl⟩ (fun s' => typeIs_int s' k t) noFill_tuple_mul F.fills_int_mul F.slot_int_rmul repeat_tuple F.slot_int_index.lookup
    (call_meets F.slot_int_rmul (typeIs_int s k t) F.entry_int_rmul (F.args_int_rmul_2 _ _) (int_rmul_tuple k t l its.toArray n dd sl)
      ⟨ho, rfl, ⟨_, ho, rfl⟩, call_meets F.slot_tuple_mul ⟨_, ho, rfl⟩ F.entry_tuple_mul (F.args_tuple_mul_2 _ _) (tuple_mul0 l its.toArray n dd sl k t c0 c1 c2) ⟨ho, ?_⟩⟩)
  exact new_f (its := []) I (Nat.zero_le _) .nil q
def repS (k : Int) : Bool := decide (-1000 ≤ k) && decide (k ≤ 1000)
def mulB : D → D → M D
  | .tup ds, .int k => if repS k = true then (if ds.isEmpty || decide (k = 1) then ret (.tup ds) else if k ≤ 0 then ret (.tup []) else mulA (.tup ds) (.int k)) else fail
  | x, y => mulA x y
def rMulB (K : PySem.W.Frag) : R2 := fun x y H Q => (rI CMul (fun i j => .int (i * j)) x y H Q ∨ rRepF K x y H Q) ∨ rRep1 K x y H Q ∨ rRep0 K x y H Q
theorem op_mulB : OpR X (binaryOp .Mult) (rMulB X.K) := op_mulAll.or (op_rep1.or op_rep0)
theorem o_mulB {K : PySem.W.Frag} : Op2 K (rMulB K) mulB := by
  intro W σ mu H S x y v w Q hS rx ry hp
  unfold mulB at hp
  split at hp
  · rename_i ds k
    by_cases hk : repS k = true
    · rw [if_pos hk] at hp
      have hk' := hk
      unfold repS at hk'
      rw [Bool.and_eq_true, decide_eq_true_eq, decide_eq_true_eq] at hk'
      by_cases h1 : (ds.isEmpty || decide (k = 1)) = true
      · rw [if_pos h1] at hp
        cases ry
        cases rx with
        | tup hd hq hr =>
          refine .inr (.inl ⟨_, k, _, rfl, rfl, sqT_t hq, ?_, hk'.1, hk'.2, hp mu H Ext.refl hS _ (.tup hd hq hr)⟩)
          rw [Bool.or_eq_true, decide_eq_true_eq] at h1
          rcases h1 with h1 | h1
          · cases hr with
            | nil => exact .inl rfl
            | cons _ _ => cases h1
          · exact .inr h1
      · rw [if_neg h1] at hp
        by_cases h2 : k ≤ 0
        · rw [if_pos h2] at hp
          cases ry
          cases rx with
          | tup hd hq hr =>
            refine .inr (.inr ⟨_, k, _, rfl, rfl, sqT_t hq, ?_, hk'.1, h2, fun p o hn hd => hp mu _ (ext_tup hn) (hS.tup hn) _ (.tup hd upd_same .nil)⟩)
            intro e
            subst e
            cases hr
            exact h1 rfl
        · rw [if_neg h2] at hp
          exact .inl (o_mulA W σ mu H S _ _ v w Q hS rx ry hp)
    · rw [if_neg hk] at hp
      exact hp.elim
  · exact .inl (o_mulA W σ mu H S _ _ v w Q hS rx ry hp)
/-! classes that have an attribute -/
theorem atN {K : PySem.W.Frag} {f : Str} : ∀ cn ∈ ([] : List Str), AtI K cn f := fun _ h => nomatch h
theorem atC {K : PySem.W.Frag} {f c : Str} {cs : List Str} (h : AtI K c f) (t : ∀ cn ∈ cs, AtI K cn f) : ∀ cn ∈ c :: cs, AtI K cn f := fun cn hm => by
  rcases List.mem_cons.mp hm with z | z
  · rw [z]; exact h
  · exact t cn z
end
end Fa
namespace Fa
open PySem PySem.Spec PyProof.Rows L2
/-! ### a call leaves no more than its answer needs -/
mutual
def ltD' (n : Nat) : D → Bool
  | .loc k => decide (k < n)
  | .tup ds => ltDs n ds
  | .ktp ds => ltDs n ds
  | .ttp ds => ltDs n ds
  | .rls ds => ltDs n ds
  | .exn _ _ ds => ltDs n ds
  | .non | .bl _ | .int _ | .str _ | .adr _ | .ty _ => true
def ltDs (n : Nat) : List D → Bool
  | [] => true
  | d :: ds => ltD' n d && ltDs n ds
end
def ltK {κ : Type} (n : Nat) : List (κ × D) → Bool
  | [] => true
  | (_, d) :: r => ltD' n d && ltK n r
def ltO (n : Nat) : MO → Bool
  | .lst ds => ltDs n ds
  | .dct kvs => ltK n kvs
  | .dcT kvs => ltK n kvs
  | .ins _ fs => ltK n fs
  | .tab _ _ => true
def ltS (n : Nat) : Sto → Bool
  | [] => true
  | o :: r => ltO n o && ltS n r
def nlK {κ : Type} : List (κ × D) → Bool
  | [] => true
  | (_, d) :: r => noLoc d && nlK r
def gcR (S : Sto) : Res D → Res D
  | .ok d S2 => if noLoc d = true then .ok d S else shR S (.ok d S2)
  | .err x S2 => if nlK x.fs = true then .err x S else shR S (.err x S2)
  | .bad => .bad
def trR (n : Nat) : Res D → Res D
  | .ok d S => if (ltD' n d && ltS n (S.take n)) = true then .ok d (S.take n) else .ok d S
  | .err x S => if (ltK n x.fs && ltS n (S.take n)) = true then .err x (S.take n) else .err x S
  | .bad => .bad
def gc (F : List D → M D) : List D → M D := fun ds S => if noLocs ds = true then gcR S (F ds []) else trR S.length (F ds S)
section
variable {K : PySem.W.Frag} {mu l : List Addr} {H : Hp}
mutual
theorem rep_lt : ∀ {v : V} {d : D}, ltD' mu.length d = true → Rep K (mu ++ l) H v d → Rep K mu H v d
  | _, _, _, .non => .non
  | _, _, _, .bl b => .bl b
  | _, _, _, .int i => .int i
  | _, _, _, .str x => .str x
  | _, _, _, .ty n => .ty n
  | _, _, _, .adr a => .adr a
  | _, _, n, .loc h => .loc (by
      simp only [ltD', decide_eq_true_eq] at n
      rwa [List.getElem?_append_left n] at h)
  | _, _, n, .tup hd h r => .tup hd h (reps_lt (by simpa [ltD'] using n) r)
  | _, _, n, .ktp h r => .ktp h (reps_lt (by simpa [ltD'] using n) r)
  | _, _, n, .ttp h r => .ttp h (reps_lt (by simpa [ltD'] using n) r)
  | _, _, n, .rls h r => .rls h (reps_lt (by simpa [ltD'] using n) r)
  | _, _, n, .exn h0 h1 h2 h3 h4 h5 r => .exn h0 h1 h2 h3 h4 h5 (reps_lt (by simpa [ltD'] using n) r)
theorem reps_lt : ∀ {vs : List V} {ds : List D}, ltDs mu.length ds = true → Reps K (mu ++ l) H vs ds → Reps K mu H vs ds
  | _, _, _, .nil => .nil
  | _, _, n, .cons r t => by
    simp only [ltDs, Bool.and_eq_true] at n
    exact .cons (rep_lt n.1 r) (reps_lt n.2 t)
end
theorem kreps_lt {κ : Type} : ∀ {s : List (κ × V)} {r : List (κ × D)}, ltK mu.length r = true → KReps K (mu ++ l) H s r → KReps K mu H s r
  | _, _, _, .nil => .nil
  | _, _, n, .cons h t => by
    simp only [ltK, Bool.and_eq_true] at n
    exact .cons ⟨h.1, rep_lt n.1 h.2⟩ (kreps_lt n.2 t)
theorem kreps_nl {κ : Type} : ∀ {s : List (κ × V)} {r : List (κ × D)}, nlK r = true → KReps K mu H s r → KReps K [] H s r
  | _, _, _, .nil => .nil
  | _, _, n, .cons h t => by
    simp only [nlK, Bool.and_eq_true] at n
    exact .cons ⟨h.1, rep_noLoc n.1 h.2⟩ (kreps_nl n.2 t)
theorem morep_lt {a : Addr} : ∀ {o : MO}, ltO mu.length o = true → MoRep K (mu ++ l) H a o → MoRep K mu H a o
  | .lst _, n, ⟨vs, h, r⟩ => ⟨vs, h, reps_lt n r⟩
  | .dct _, n, ⟨vs, h, r⟩ => ⟨vs, h, kreps_lt n r⟩
  | .dcT _, n, ⟨vs, h, r⟩ => ⟨vs, h, kreps_lt n r⟩
  | .ins _ _, n, ⟨C, dx, vs, hc, h, r⟩ => ⟨C, dx, vs, hc, h, kreps_lt n r⟩
  | .tab _ _, _, h => h
theorem ltS_at {n : Nat} : ∀ {S : Sto} {i : Nat} {o : MO}, ltS n S = true → S[i]? = some o → ltO n o = true
  | [], _, _, _, e => by simp at e
  | p :: r, 0, o, h, e => by
    simp at e
    subst e
    simp only [ltS, Bool.and_eq_true] at h
    exact h.1
  | p :: r, i + 1, o, h, e => by
    simp only [ltS, Bool.and_eq_true] at h
    exact ltS_at h.2 (by simpa using e)
theorem hrep_lt {S : Sto} (h : HRep K (mu ++ l) H S) (hs : ltS mu.length (S.take mu.length) = true) : HRep K mu H (S.take mu.length) := by
  have hl := h.len
  rw [List.length_append] at hl
  refine ⟨by rw [List.length_take]; omega, (List.nodup_append.mp h.nd).1, fun n o a e1 e2 => ?_⟩
  have hn : n < mu.length := (List.getElem?_eq_some_iff.mp e2).1
  have q := morep_lt (ltS_at hs e1) (h.ob n o a (by rw [List.getElem?_take_of_lt hn] at e1; exact e1) (by rw [List.getElem?_append_left hn]; exact e2))
  exact q
/-- the old store stays behind a run in a store of its own -/
theorem frame0 {mu2 : List Addr} {H2 : Hp} {S : Sto} (hS : HRep K mu H S) (e : Ext [] H mu2 H2) : Ext mu H mu H2 ∧ HRep K mu H2 S := by
  have all : ∀ a o, H a = some o → H2 a = some o := fun a o h => e.rest a o (by simp) h
  have E : Ext mu H mu H2 := ⟨⟨[], by simp, fun _ z => nomatch z⟩, e.live, fun a o _ h => all a o h, fun a φ h => all a _ h, fun a φ h => all a _ h, fun a φ h => all a _ h, fun a o u h => all a _ h⟩
  refine ⟨E, hS.len, hS.nd, fun n o a e1 e2 => ?_⟩
  have q := hS.ob n o a e1 e2
  obtain ⟨u, eu⟩ := q.some
  exact q.mono E (by rw [eu]; exact all a u eu)
mutual
theorem rep_nil : ∀ {v : V} {d : D}, Rep K [] H v d → Rep K mu H v d
  | _, _, .non => .non
  | _, _, .bl b => .bl b
  | _, _, .int i => .int i
  | _, _, .str x => .str x
  | _, _, .ty n => .ty n
  | _, _, .adr a => .adr a
  | _, _, .loc h => by simp at h
  | _, _, .tup hd h r => .tup hd h (reps_nil r)
  | _, _, .ktp h r => .ktp h (reps_nil r)
  | _, _, .ttp h r => .ttp h (reps_nil r)
  | _, _, .rls h r => .rls h (reps_nil r)
  | _, _, .exn h0 h1 h2 h3 h4 h5 r => .exn h0 h1 h2 h3 h4 h5 (reps_nil r)
theorem reps_nil : ∀ {vs : List V} {ds : List D}, Reps K [] H vs ds → Reps K mu H vs ds
  | _, _, .nil => .nil
  | _, _, .cons r t => .cons (rep_nil r) (reps_nil t)
end
theorem kreps_nil {κ : Type} : ∀ {s : List (κ × V)} {r : List (κ × D)}, KReps K [] H s r → KReps K mu H s r
  | _, _, .nil => .nil
  | _, _, .cons h t => .cons ⟨h.1, rep_nil h.2⟩ (kreps_nil t)
theorem xrep_nl {cls : Value} {dd : Option Addr} {x : Exn} {mu2 : List Addr} (n : nlK x.fs = true) (h : XRep K mu2 H cls dd x) : XRep K mu H cls dd x := by
  obtain ⟨e, a, fs, h1, h2, h3⟩ := h
  exact ⟨e, a, fs, h1, h2, kreps_nil (kreps_nl n h3)⟩
theorem xrep_lt {cls : Value} {dd : Option Addr} {x : Exn} (n : ltK mu.length x.fs = true) (h : XRep K (mu ++ l) H cls dd x) : XRep K mu H cls dd x := by
  obtain ⟨e, a, fs, h1, h2, h3⟩ := h
  exact ⟨e, a, fs, h1, h2, kreps_lt n h3⟩
theorem Ext.cut {H' : Hp} (e : Ext mu H (mu ++ l) H') : Ext mu H mu H' := ⟨⟨[], by simp, fun _ z => nomatch z⟩, e.live, e.rest, e.exts, e.xds, e.tups, e.frzs⟩
theorem prom_gc {F : List D → M D} {vs : List V} {Q : VK} {E : XK} (h : prom K (gc F) vs H Q E) : prom K F vs H Q E := by
  obtain ⟨ds, mu, S, hS, hr, hp⟩ := h
  unfold gc at hp
  by_cases n : noLocs ds = true
  · rw [if_pos n] at hp
    refine ⟨ds, [], [], hrep_nil, reps_noLoc n hr, ?_⟩
    cases e : F ds [] with
    | ok d S2 =>
      rw [e] at hp
      intro mu2 H2 ex h2 v rv
      unfold gcR at hp
      by_cases z : noLoc d = true
      · simp only [if_pos z] at hp
        obtain ⟨E, h3⟩ := frame0 hS ex
        exact hp mu H2 E h3 v (rep_nil (rep_noLoc z rv))
      · simp only [if_neg z] at hp
        obtain ⟨E, h3⟩ := frame hS ex h2
        refine hp (mu ++ mu2) H2 E ?_ v ?_ <;> rw [show S.length = mu.length from hS.len]
        · exact h3
        · exact rep_sft rv
    | err x S2 =>
      rw [e] at hp
      intro mu2 H2 cls dd ex h2 hx
      unfold gcR at hp
      by_cases z : nlK x.fs = true
      · simp only [if_pos z] at hp
        obtain ⟨E, h3⟩ := frame0 hS ex
        exact hp mu H2 cls dd E h3 (xrep_nl z hx)
      · simp only [if_neg z] at hp
        obtain ⟨E, h3⟩ := frame hS ex h2
        refine hp (mu ++ mu2) H2 cls dd E ?_ ?_ <;> rw [show S.length = mu.length from hS.len]
        · exact h3
        · exact xrep_sft hx
    | bad => rw [e] at hp; exact hp.elim
  · rw [if_neg n] at hp
    refine ⟨ds, mu, S, hS, hr, ?_⟩
    rw [hS.len] at hp
    cases e : F ds S with
    | ok d S2 =>
      rw [e] at hp
      unfold trR at hp
      by_cases z : (ltD' mu.length d && ltS mu.length (S2.take mu.length)) = true
      · simp only [if_pos z] at hp
        rw [Bool.and_eq_true] at z
        intro mu2 H2 ex h2 v rv
        obtain ⟨l, e1, _⟩ := id ex.pre
        subst e1
        exact hp mu H2 ex.cut (hrep_lt h2 z.2) v (rep_lt z.1 rv)
      · simp only [if_neg z] at hp
        exact hp
    | err x S2 =>
      rw [e] at hp
      unfold trR at hp
      by_cases z : (ltK mu.length x.fs && ltS mu.length (S2.take mu.length)) = true
      · simp only [if_pos z] at hp
        rw [Bool.and_eq_true] at z
        intro mu2 H2 cls dd ex h2 hx
        obtain ⟨l, e1, _⟩ := id ex.pre
        subst e1
        exact hp mu H2 cls dd ex.cut (hrep_lt h2 z.2) (xrep_lt z.1 hx)
      · simp only [if_neg z] at hp
        exact hp
    | bad => rw [e] at hp; exact hp.elim
theorem fnG_gc {P : Program} {w : World} {mg : Str → Option Value} {base : Heap} {k : Nat} {f : Addr} {fd : FuncData} {ps : List Str} {F : List D → M D} (G : FnG P w K mg base k f fd ps F) : FnG P w K mg base k f fd ps (gc F) :=
  fun A outer s H ar us vs Q E hr hg e0 hb rv hl hp => G A outer s H ar us vs Q E hr hg e0 hb rv hl (prom_gc hp)
theorem gc_arity {n : Nat} {F : List D → M D} (h : arity n F) : arity n (gc F) := fun ds S hl => by
  unfold gc
  by_cases z : noLocs ds = true
  · rw [if_pos z, h ds [] hl]
    rfl
  · rw [if_neg z, h ds S hl]
    rfl
end
mutual
theorem ltD_up {n m : Nat} (h : n ≤ m) : ∀ {d : D}, ltD' n d = true → ltD' m d = true
  | .loc k, e => by
    simp only [ltD', decide_eq_true_eq] at e ⊢
    omega
  | .tup ds, e => by simpa [ltD'] using ltDs_up h (by simpa [ltD'] using e)
  | .ktp ds, e => by simpa [ltD'] using ltDs_up h (by simpa [ltD'] using e)
  | .ttp ds, e => by simpa [ltD'] using ltDs_up h (by simpa [ltD'] using e)
  | .rls ds, e => by simpa [ltD'] using ltDs_up h (by simpa [ltD'] using e)
  | .exn _ _ ds, e => by simpa [ltD'] using ltDs_up h (by simpa [ltD'] using e)
  | .non, _ | .bl _, _ | .int _, _ | .str _, _ | .adr _, _ | .ty _, _ => rfl
theorem ltDs_up {n m : Nat} (h : n ≤ m) : ∀ {ds : List D}, ltDs n ds = true → ltDs m ds = true
  | [], _ => rfl
  | d :: ds, e => by
    simp only [ltDs, Bool.and_eq_true] at e ⊢
    exact ⟨ltD_up h e.1, ltDs_up h e.2⟩
end
theorem ltK_up {κ : Type} {n m : Nat} (h : n ≤ m) : ∀ {ds : List (κ × D)}, ltK n ds = true → ltK m ds = true
  | [], _ => rfl
  | (_, d) :: ds, e => by
    simp only [ltK, Bool.and_eq_true] at e ⊢
    exact ⟨ltD_up h e.1, ltK_up h e.2⟩
theorem ltO_up {n m : Nat} (h : n ≤ m) : ∀ {o : MO}, ltO n o = true → ltO m o = true
  | .lst _, e => ltDs_up h e
  | .dct _, e => ltK_up h e
  | .dcT _, e => ltK_up h e
  | .ins _ _, e => ltK_up h e
  | .tab _ _, _ => rfl
theorem ltS_up {n m : Nat} (h : n ≤ m) : ∀ {S : Sto}, ltS n S = true → ltS m S = true
  | [], _ => rfl
  | o :: S, e => by
    simp only [ltS, Bool.and_eq_true] at e ⊢
    exact ⟨ltO_up h e.1, ltS_up h e.2⟩
theorem ltS_app {n : Nat} : ∀ {S T : Sto}, ltS n S = true → ltS n T = true → ltS n (S ++ T) = true
  | [], _, _, h => h
  | o :: S, T, e, h => by
    simp only [ltS, Bool.and_eq_true, List.cons_append] at e ⊢
    exact ⟨e.1, ltS_app e.2 h⟩
theorem ltDs_mem {n : Nat} : ∀ {ds : List D} {d : D}, ltDs n ds = true → d ∈ ds → ltD' n d = true
  | e :: ds, d, h, hm => by
    simp only [ltDs, Bool.and_eq_true] at h
    rcases List.mem_cons.mp hm with z | z
    · rw [z]; exact h.1
    · exact ltDs_mem h.2 z
theorem mulB_ii (S : Sto) (m n : Int) (h : mulC m n = true) : mulB (.int m) (.int n) S = .ok (.int (m * n)) S := mul_ii S m n h
end Fa
namespace Fa
open PySem PySem.Spec PyProof.Rows L2
/-! ### {k: v, ..} -/
def mPairs : List ((Env → M D) × (Env → M D)) → Env → M (List (D × D))
  | [], _ => ret []
  | p :: l, r => bnd (p.1 r) fun x => bnd (p.2 r) fun y => bnd (mPairs l r) fun ps => ret ((x, y) :: ps)
def keyP : List (D × D) → Option (List (Key × D))
  | [] => some []
  | (k, d) :: r => match keyOf k, keyP r with
    | some key, some ks => some ((key, d) :: ks)
    | _, _ => none
def mergeD (kvs more : List (Key × D)) : List (Key × D) := more.foldl (fun acc kv => putKD acc kv.1 kv.2) kvs
def mDisp (l : List ((Env → M D) × (Env → M D))) : Env → M D := fun r S => match mPairs l r (S ++ [.dct []]) with
  | .ok ps S2 => match S2[S.length]?, keyP ps with
    | some (.dct []), some kvs => if kvs.length ≤ 15 then .ok (.loc S.length) (S2.set S.length (.dct (mergeD [] kvs))) else .bad
    | _, _ => .bad
  | .err x S2 => .err x S2
  | .bad => .bad
section
variable {K : PySem.W.Frag} {X : Cx} {W : WX}
def PReps (K : PySem.W.Frag) (mu : List Addr) (H : Hp) : List (V × V) → List (D × D) → Prop := Paired fun p q => Rep K mu H p.1 q.1 ∧ Rep K mu H p.2 q.2
abbrev trs (K : PySem.W.Frag) (W : WX) (l : List ((Env → M D) × (Env → M D))) : List (TE × TE) := l.map fun p => (rdE K W p.1, rdE K W p.2)
theorem pairs_go : ∀ (l : List ((Env → M D) × (Env → M D))) {σ : L2.St} {r : Env} {mu : List Addr} {S : Sto} {H : Hp} {Q : List (V × V) → Hp → Prop}, HRep K mu H S → ERep K mu H σ r →
    Post K W σ mu H (fun ps S' mu' H' => HRep K mu' H' S' → ∀ vs, PReps K mu' H' vs ps → Q vs H') (mPairs l r S) → tPairs (trs K W l) σ H Q
  | [], σ, r, mu, S, H, Q, hS, he, hp => hp mu H Ext.refl hS hS [] .nil
  | p :: l, σ, r, mu, S, H, Q, hS, he, hp => by
    refine ⟨r, mu, S, hS, he, hp.bnd.imp fun x S1 mu1 H1 ex hS1 q1 v rv => ?_⟩
    refine ⟨r, mu1, S1, hS1, he.mono ex, q1.bnd.imp fun y S2 mu2 H2 ex2 hS2 q2 w rw => ?_⟩
    refine pairs_go l hS2 (he.mono (ex.trans ex2)) (q2.bnd.imp fun ps S3 mu3 H3 ex3 hS3 q3 _ vs rvs => ?_)
    exact q3 mu3 H3 Ext.refl hS3 hS3 _ (.cons ⟨(rv.mono ex2).mono ex3, rw.mono ex3⟩ rvs)
theorem keyP_of {mu : List Addr} {H : Hp} : ∀ {ps : List (D × D)} {vs : List (V × V)} {kvs : List (Key × D)}, PReps K mu H vs ps → keyP ps = some kvs → ∃ ws : List (Key × V), vs = ws.map (fun kv => (kV kv.1, kv.2)) ∧ KReps K mu H ws kvs
  | [], _, kvs, .nil, h => by
    cases h
    exact ⟨[], rfl, .nil⟩
  | (k, d) :: ps, (v, u) :: vs, kvs, .cons h t, e => by
    unfold keyP at e
    cases e1 : keyOf k with
    | none => simp only [e1] at e; cases e
    | some key =>
      cases e2 : keyP ps with
      | none => simp only [e1, e2] at e; cases e
      | some ks =>
        simp only [e1, e2] at e
        cases e
        obtain ⟨ws, q1, q2⟩ := keyP_of t e2
        refine ⟨(key, u) :: ws, ?_, .cons ⟨rfl, h.2⟩ q2⟩
        rw [List.map_cons, q1]
        show (v, u) :: _ = (kV key, u) :: _
        rw [show v = kV key from keyOf_of h.1 e1]
theorem kreps_merge {mu : List Addr} {H : Hp} : ∀ {ws : List (Key × V)} {kvs : List (Key × D)} {as : List (Key × V)} {bs : List (Key × D)}, KReps K mu H ws kvs → KReps K mu H as bs → KReps K mu H (mergeK as ws) (mergeD bs kvs)
  | _, _, _, _, .nil, h => h
  | p :: ws, q :: kvs, as, bs, .cons h t, h0 => by
    have e : KReps K mu H (putK as p.1 p.2) (putKD bs q.1 q.2) := by
      rw [show p.1 = q.1 from h.1]
      exact kreps_put h0 h.2
    exact kreps_merge (ws := ws) (kvs := kvs) t e
theorem se_disp {pos : Pos} {keys : List (Option Expr)} {values : List Expr} {l : List ((Env → M D) × (Env → M D))} (h : PPs X pos keys values (trs X.K W l)) (hall : keys.all (·.isSome) = true := by rfl) (hl : keys.length = values.length := by rfl) (h0 : keys ≠ [] := by simp)
    (h15 : keys.length ≤ 15 := by decide) : SE X W (.Dict keys values pos) (mDisp l) := peI (pe_disp h hall hl h0 h15) fun σ H Q q => by
  obtain ⟨r, mu, S, hS, he, hp⟩ := q
  intro p hn
  have ex := ext_new (mu := mu) (u := .dK []) hn
  have hS1 : HRep X.K (mu ++ [p]) (upd H p (.dK [])) (S ++ [.dct []]) := hS.new hn ⟨[], upd_same, .nil⟩
  refine pairs_go l hS1 (he.mono ex) ?_
  unfold mDisp at hp
  cases e : mPairs l r (S ++ [.dct []]) with
  | bad => rw [e] at hp; exact hp.elim
  | err x S2 =>
    rw [e] at hp
    exact hp.later ex
  | ok ps S2 =>
    rw [e] at hp
    intro mu2 H2 e2 hS2 _ vs rvs
    simp only at hp
    cases e3 : S2[S.length]? with
    | none => simp only [e3] at hp; exact hp.elim
    | some o =>
      cases e4 : keyP ps with
      | none => simp only [e3, e4] at hp; cases o <;> first | exact hp.elim | (rename_i kk; cases kk <;> exact hp.elim)
      | some kvs =>
        simp only [e3, e4] at hp
        have hn2 : mu2[S.length]? = some p := e2.get (by rw [hS.len]; simp)
        obtain ⟨o', ho', hm⟩ := hS2.obj hn2
        rw [e3] at ho'
        cases ho'
        cases o with
        | dct k0 =>
          cases k0 with
          | cons _ _ => exact hp.elim
          | nil =>
            simp only at hp
            by_cases hz : kvs.length ≤ 15
            · rw [if_pos hz] at hp
              obtain ⟨us, h1, hr⟩ := hm
              cases hr
              obtain ⟨ws, q1, q2⟩ := keyP_of rvs e4
              have e5 : Ext mu2 H2 mu2 (upd H2 p (.dK (mergeK [] ws))) := ext_put hn2 h1 trivial
              refine ⟨h1, ws, q1, by rw [Paired.length q2]; exact hz, ?_⟩
              refine hp mu2 _ ((ex.trans e2).trans e5) (hS2.put (u' := .dK []) hn2 e5 ⟨_, upd_same, kreps_merge (q2.mono e5) .nil⟩) _ (.loc hn2)
            · rw [if_neg hz] at hp
              exact hp.elim
        | _ => exact hp.elim
end
end Fa
namespace Fa
open PySem PySem.Spec PyProof.Rows L2
/-! ### a call leaves the old store alone, but for what it changed -/
def Trim (n : Nat) (S S' : Sto) : Prop := ∀ i, i < n → S'[i]? = S[i]? ∨ ∃ o, S'[i]? = some o ∧ ltO n o = true
open Classical in
noncomputable def gq (F : List D → M D) : List D → M D := fun ds S => match F ds S with
  | .ok d S' => if ltD' S.length d = true ∧ Trim S.length S S' then .ok d (S'.take S.length) else .ok d S'
  | .err x S' => if ltK S.length x.fs = true ∧ Trim S.length S S' then .err x (S'.take S.length) else .err x S'
  | .bad => .bad
section
variable {K : PySem.W.Frag} {mu l : List Addr} {H : Hp}
mutual
theorem lt_of_rep : ∀ {v : V} {d : D}, Rep K mu H v d → ltD' mu.length d = true
  | _, _, .non => rfl
  | _, _, .bl b => rfl
  | _, _, .int i => rfl
  | _, _, .str x => rfl
  | _, _, .ty n => rfl
  | _, _, .adr a => rfl
  | _, _, .loc h => by
    simp only [ltD', decide_eq_true_eq]
    exact (List.getElem?_eq_some_iff.mp h).1
  | _, _, .tup hd h r => by simpa [ltD'] using lt_of_reps r
  | _, _, .ktp h r => by simpa [ltD'] using lt_of_reps r
  | _, _, .ttp h r => by simpa [ltD'] using lt_of_reps r
  | _, _, .rls h r => by simpa [ltD'] using lt_of_reps r
  | _, _, .exn h0 h1 h2 h3 h4 h5 r => by simpa [ltD'] using lt_of_reps r
theorem lt_of_reps : ∀ {vs : List V} {ds : List D}, Reps K mu H vs ds → ltDs mu.length ds = true
  | _, _, .nil => rfl
  | _, _, .cons r t => by
    simp only [ltDs, Bool.and_eq_true]
    exact ⟨lt_of_rep r, lt_of_reps t⟩
end
theorem lt_of_kreps {κ : Type} : ∀ {s : List (κ × V)} {r : List (κ × D)}, KReps K mu H s r → ltK mu.length r = true
  | _, _, .nil => rfl
  | _, (_, _) :: _, .cons h t => by
    simp only [ltK, Bool.and_eq_true]
    exact ⟨lt_of_rep h.2, lt_of_kreps t⟩
theorem lt_of_morep {a : Addr} : ∀ {o : MO}, MoRep K mu H a o → ltO mu.length o = true
  | .lst _, ⟨vs, h, r⟩ => lt_of_reps r
  | .dct _, ⟨vs, h, r⟩ => lt_of_kreps r
  | .dcT _, ⟨vs, h, r⟩ => lt_of_kreps r
  | .ins _ _, ⟨C, dx, vs, hc, h, r⟩ => lt_of_kreps r
  | .tab _ _, _ => rfl
theorem hrep_trim {H2 : Hp} {S S2 : Sto} (hS : HRep K mu H S) (h : HRep K (mu ++ l) H2 S2) (ht : Trim mu.length S S2) : HRep K mu H2 (S2.take mu.length) := by
  have hl := h.len
  rw [List.length_append] at hl
  refine ⟨by rw [List.length_take]; omega, (List.nodup_append.mp h.nd).1, fun n o a e1 e2 => ?_⟩
  have hn : n < mu.length := (List.getElem?_eq_some_iff.mp e2).1
  rw [List.getElem?_take_of_lt hn] at e1
  have q := h.ob n o a e1 (by rw [List.getElem?_append_left hn]; exact e2)
  refine morep_lt ?_ q
  rcases ht n hn with z | ⟨o', z1, z2⟩
  · obtain ⟨o1, ho1, hm1⟩ := hS.obj e2
    rw [e1, ho1] at z
    cases z
    exact lt_of_morep hm1
  · rw [e1] at z1
    cases z1
    exact z2
theorem prom_gq {F : List D → M D} {vs : List V} {Q : VK} {E : XK} (h : prom K (gq F) vs H Q E) : prom K F vs H Q E := by
  obtain ⟨ds, mu, S, hS, hr, hp⟩ := h
  refine ⟨ds, mu, S, hS, hr, ?_⟩
  unfold gq at hp
  cases e : F ds S with
  | ok d S2 =>
    rw [e] at hp
    simp only at hp
    by_cases z : ltD' S.length d = true ∧ Trim S.length S S2
    · rw [if_pos z] at hp
      rw [hS.len] at hp z
      intro mu2 H2 ex h2 v rv
      obtain ⟨l, e1, _⟩ := id ex.pre
      subst e1
      exact hp mu H2 ex.cut (hrep_trim hS h2 z.2) v (rep_lt z.1 rv)
    · rw [if_neg z] at hp
      exact hp
  | err x S2 =>
    rw [e] at hp
    simp only at hp
    by_cases z : ltK S.length x.fs = true ∧ Trim S.length S S2
    · rw [if_pos z] at hp
      rw [hS.len] at hp z
      intro mu2 H2 cls dd ex h2 hx
      obtain ⟨l, e1, _⟩ := id ex.pre
      subst e1
      exact hp mu H2 cls dd ex.cut (hrep_trim hS h2 z.2) (xrep_lt z.1 hx)
    · rw [if_neg z] at hp
      exact hp
  | bad => rw [e] at hp; exact hp.elim
theorem fnG_gq {P : Program} {w : World} {mg : Str → Option Value} {base : Heap} {k : Nat} {f : Addr} {fd : FuncData} {ps : List Str} {F : List D → M D} (G : FnG P w K mg base k f fd ps F) : FnG P w K mg base k f fd ps (gq F) :=
  fun A outer s H ar us vs Q E hr hg e0 hb rv hl hp => G A outer s H ar us vs Q E hr hg e0 hb rv hl (prom_gq hp)
theorem gq_arity {n : Nat} {F : List D → M D} (h : arity n F) : arity n (gq F) := fun ds S hl => by
  unfold gq
  rw [h ds S hl]
end
theorem Trim.app {S l : Sto} : Trim S.length S (S ++ l) := fun i hi => .inl (List.getElem?_append_left hi)
/-- a call that makes new things alone -/
theorem gq_new {F : List D → M D} {ds : List D} {S l : Sto} {d : D} (h : F ds S = .ok d (S ++ l)) (hd : ltD' S.length d = true) : gq F ds S = .ok d S := by
  unfold gq
  rw [h]
  simp only
  rw [if_pos ⟨hd, Trim.app⟩]
  simp
theorem gq_set {F : List D → M D} {ds : List D} {S l : Sto} {d : D} {p : Nat} {o : MO} (h : F ds S = .ok d (S.set p o ++ l)) (hd : ltD' S.length d = true) (ho : ltO S.length o = true) : gq F ds S = .ok d (S.set p o) := by
  unfold gq
  rw [h]
  simp only
  have hl : (S.set p o).length = S.length := List.length_set ..
  have ht : Trim S.length S (S.set p o ++ l) := fun i hi => by
    rw [List.getElem?_append_left (by rw [hl]; exact hi)]
    by_cases e : p = i
    · subst e
      rw [List.getElem?_set_self hi]
      exact .inr ⟨o, rfl, ho⟩
    · rw [List.getElem?_set_ne e]
      exact .inl rfl
  rw [if_pos ⟨hd, ht⟩]
  have h2 : (S.set p o ++ l).take S.length = S.set p o := by
    rw [← hl]
    simp
  rw [h2]
theorem gq_err {F : List D → M D} {ds : List D} {S l : Sto} {x : Exn} (h : F ds S = .err x (S ++ l)) (hd : ltK S.length x.fs = true) : gq F ds S = .err x S := by
  unfold gq
  rw [h]
  simp only
  rw [if_pos ⟨hd, Trim.app⟩]
  simp
end Fa
namespace Fa
open PySem PySem.Spec PyProof.Rows L2
/-! ### more equations of running -/
section
variable (r : Env) (S : Sto) (d x y : D) (ds xs : List D) (a b c : Env → M D) (ms : Env → M (List D)) (i j : Nat)
def kCh1 (f g : D → D → M D) (b c : Env → M D) (r : Env) (x : D) : M D := bnd (b r) fun y => bnd (f x y) fun z => bnd (isBl z) fun k => if k = true then bnd (c r) fun w => g y w else ret (.bl false)
def kCh2 (f g : D → D → M D) (c : Env → M D) (r : Env) (x y : D) : M D := bnd (f x y) fun z => bnd (isBl z) fun k => if k = true then bnd (c r) fun w => g y w else ret (.bl false)
def kCh3 (g : D → D → M D) (c : Env → M D) (r : Env) (y z : D) : M D := bnd (isBl z) fun k => if k = true then bnd (c r) fun w => g y w else ret (.bl false)
theorem mChain_ap (f g : D → D → M D) : mChain f g a b c r S = bK (a r S) (kCh1 f g b c r) := id rfl
theorem kCh1_ap (f g : D → D → M D) : kCh1 f g b c r x S = bK (b r S) (kCh2 f g c r x) := id rfl
theorem kCh2_ap (f g : D → D → M D) : kCh2 f g c r x y S = bK (f x y S) (kCh3 g c r y) := id rfl
theorem kCh3_t (g : D → D → M D) : kCh3 g c r y (.bl true) S = bK (c r S) (g y) := id rfl
theorem kCh3_f (g : D → D → M D) : kCh3 g c r y (.bl false) S = .ok (.bl false) S := id rfl
def kSl1 (lo hi : Env → M (Option Int)) (r : Env) (x : D) : M D := bnd (lo r) fun l => bnd (hi r) fun u => slD x l u
def kSl2 (hi : Env → M (Option Int)) (r : Env) (x : D) (l : Option Int) : M D := bnd (hi r) fun u => slD x l u
theorem mSl_ap (lo hi : Env → M (Option Int)) : mSl a lo hi r S = bK (a r S) (kSl1 lo hi r) := id rfl
theorem kSl1_ap (lo hi : Env → M (Option Int)) : kSl1 lo hi r x S = bK (lo r S) (kSl2 hi r x) := id rfl
theorem kSl2_ap (hi : Env → M (Option Int)) (l : Option Int) : kSl2 hi r x l S = bK (hi r S) (slD x l) := id rfl
def kTl1 (lo hi : Env → M (Option Int)) (r : Env) (x : D) : M D := bnd (lo r) fun l => bnd (hi r) fun u => slT x l u
def kTl2 (hi : Env → M (Option Int)) (r : Env) (x : D) (l : Option Int) : M D := bnd (hi r) fun u => slT x l u
theorem mSlT_ap (lo hi : Env → M (Option Int)) : mSlT a lo hi r S = bK (a r S) (kTl1 lo hi r) := id rfl
theorem kTl1_ap (lo hi : Env → M (Option Int)) : kTl1 lo hi r x S = bK (lo r S) (kTl2 hi r x) := id rfl
theorem kTl2_ap (hi : Env → M (Option Int)) (l : Option Int) : kTl2 hi r x l S = bK (hi r S) (slT x l) := id rfl
theorem mP0_ap : mP0 r S = .ok none S := id rfl
theorem mP_ap : mP a r S = bK (a r S) intO := id rfl
theorem intO_ap (n : Int) : intO (.int n) S = .ok (some n) S := id rfl
theorem sl_t (lo hi : Option Int) : slD (.tup ds) lo hi S = .ok (.tup (cutD ds lo hi)) S := id rfl
theorem dfl_ap (F : List D → M D) : dfl F xs ds S = F (ds ++ xs) S := id rfl
def kMe1 (cn m : Str) (F : List D → M D) (a : Env → M (List D)) (r : Env) (x : D) : M D := bnd (isIns cn m x) fun _ => bnd (a r) fun xs => F (x :: xs)
def kMe2 (F : List D → M D) (a : Env → M (List D)) (r : Env) (x : D) (_ : Unit) : M D := bnd (a r) fun xs => F (x :: xs)
def kMe3 (F : List D → M D) (x : D) (xs : List D) : M D := F (x :: xs)
theorem mMeth_ap (cn m : Str) (F : List D → M D) : mMeth cn m F a ms r S = bK (a r S) (kMe1 cn m F ms r) := id rfl
theorem kMe1_ap (cn m : Str) (F : List D → M D) : kMe1 cn m F ms r x S = bK (isIns cn m x S) (kMe2 F ms r x) := id rfl
theorem kMe2_ap (F : List D → M D) : kMe2 F ms r x () S = bK (ms r S) (kMe3 F x) := id rfl
theorem kMe3_ap (F : List D → M D) : kMe3 F x xs S = F (x :: xs) S := id rfl
theorem isIns_l {n : Nat} {cn m : Str} {fs : List (Str × D)} (h : S[n]? = some (.ins cn fs)) (hf : fs.lookup m = none) : isIns cn m (.loc n) S = .ok () S := by
  unfold isIns
  simp only [h, if_true, hf]
theorem fld_l {n : Nat} {cs : List Str} {cn f : Str} {fs : List (Str × D)} {d : D} (h : S[n]? = some (.ins cn fs)) (hc : cn ∈ cs) (hf : fs.lookup f = some d) : fldD cs f (.loc n) S = .ok d S := by
  unfold fldD
  simp only [h, hc, if_true, hf]
theorem setF_l {n : Nat} {cs : List Str} {cn f : Str} {fs : List (Str × D)} (h : S[n]? = some (.ins cn fs)) (hc : cn ∈ cs) (hf : fs.length < 1000) : setF cs f (.loc n) d S = .ok () (S.set n (.ins cn (putFD f d fs))) := by
  unfold setF
  simp only [h, hc, hf, and_self, if_true]
def kF1 (cs : List Str) (f : Str) (d : D) (r : Env) (o : D) : M Env := bnd (setF cs f o d) fun _ => ret r
theorem gFld_ap (cs : List Str) (f : Str) : gFld cs f a d r S = bK (a r S) (kF1 cs f d r) := id rfl
theorem kF1_ap (cs : List Str) (f : Str) : kF1 cs f d r x S = bK (setF cs f x d S) (kSub3 r) := id rfl
def kSA1 (mi : Env → M D) (d : D) (r : Env) (o : D) : M Env := bnd (mi r) fun i => bnd (setA o i d) fun _ => ret r
def kSA2 (d : D) (r : Env) (o i : D) : M Env := bnd (setA o i d) fun _ => ret r
theorem gSubA_ap : gSubA a b d r S = bK (a r S) (kSA1 b d r) := id rfl
theorem kSA1_ap : kSA1 b d r x S = bK (b r S) (kSA2 d r x) := id rfl
theorem kSA2_ap : kSA2 d r x y S = bK (setA x y d S) (kSub3 r) := id rfl
def kPar3 (i j l : Nat) (ds : List D) (r : Env) (S : Sto) : Out := match ds with
  | [x, y, z] => .nx (((r.set i (some x)).set j (some y)).set l (some z)) S
  | _ => .bad
theorem sPar3_ap (l : Nat) : sPar3 i j l ms r S = oK (ms r S) (kPar3 i j l) r := bndO_ap r S ms _
theorem kPar3_ap (l : Nat) (z : D) : kPar3 i j l [x, y, z] r S = .nx (((r.set i (some x)).set j (some y)).set l (some z)) S := id rfl
def mkR (n : Nat) : Res D → Res D
  | .ok .non S' => .ok (.loc n) S'
  | .err x S' => .err x S'
  | _ => .bad
theorem mkD_ap (cn : Str) (F : List D → M D) : mkD cn F ds S = mkR S.length (F (.loc S.length :: ds) (S ++ [.ins cn []])) := by
  unfold mkD mkR
  cases F (.loc S.length :: ds) (S ++ [.ins cn []]) with
  | ok v S' => cases v <;> rfl
  | err x S' => rfl
  | bad => rfl
theorem mkR_ok : mkR i (.ok .non S) = .ok (.loc i) S := id rfl
theorem dct0D_ap : dct0D r S = .ok (.loc S.length) (S ++ [.dct []]) := id rfl
def kPr1 (b : Env → M D) (l : List ((Env → M D) × (Env → M D))) (r : Env) (x : D) : M (List (D × D)) := bnd (b r) fun y => bnd (mPairs l r) fun ps => ret ((x, y) :: ps)
def kPr2 (l : List ((Env → M D) × (Env → M D))) (r : Env) (x y : D) : M (List (D × D)) := bnd (mPairs l r) fun ps => ret ((x, y) :: ps)
def kPr3 (x y : D) (ps : List (D × D)) : M (List (D × D)) := ret ((x, y) :: ps)
theorem mPairs_nil : mPairs [] r S = .ok [] S := id rfl
theorem mPairs_cons (l : List ((Env → M D) × (Env → M D))) : mPairs ((a, b) :: l) r S = bK (a r S) (kPr1 b l r) := id rfl
theorem kPr1_ap (l : List ((Env → M D) × (Env → M D))) : kPr1 b l r x S = bK (b r S) (kPr2 l r x) := id rfl
theorem kPr2_ap (l : List ((Env → M D) × (Env → M D))) : kPr2 l r x y S = bK (mPairs l r S) (kPr3 x y) := id rfl
theorem kPr3_ap (ps : List (D × D)) : kPr3 x y ps S = .ok ((x, y) :: ps) S := id rfl
def dspR (n : Nat) : Res (List (D × D)) → Res D
  | .ok ps S2 => match S2[n]?, keyP ps with
    | some (.dct []), some kvs => if kvs.length ≤ 15 then .ok (.loc n) (S2.set n (.dct (mergeD [] kvs))) else .bad
    | _, _ => .bad
  | .err x S2 => .err x S2
  | .bad => .bad
theorem mDisp_ap (l : List ((Env → M D) × (Env → M D))) : mDisp l r S = dspR S.length (mPairs l r (S ++ [.dct []])) := by
  unfold mDisp dspR
  cases mPairs l r (S ++ [.dct []]) <;> rfl
theorem dsp_ok {n : Nat} {ps : List (D × D)} {kvs : List (Key × D)} (h1 : S[n]? = some (.dct [])) (h2 : keyP ps = some kvs) (h3 : kvs.length ≤ 15) : dspR n (.ok ps S) = .ok (.loc n) (S.set n (.dct (mergeD [] kvs))) := by
  unfold dspR
  simp only [h1, h2, h3, if_true]
theorem dget_l {n : Nat} {kvs : List (Key × D)} {k : D} {key : Key} (h : S[n]? = some (.dct kvs)) (hk : keyOf k = some key) : dget S (.loc n) k = some (valKD kvs key) := by
  unfold dget
  simp only [h, hk]
theorem ixA_d {n : Nat} {kvs : List (Key × D)} {k : D} {key : Key} {d : D} (h : S[n]? = some (.dct kvs)) (hk : keyOf k = some key) (hv : valKD kvs key = some d) : ixA (.loc n) k S = .ok d S := by
  unfold ixA
  rw [dget_l S h hk, hv]
theorem setA_d {n : Nat} {kvs : List (Key × D)} {k : D} {key : Key} (h : S[n]? = some (.dct kvs)) (hk : keyOf k = some key) (hz : kvs.length < sizeLine) : setA (.loc n) k d S = .ok () (S.set n (.dct (putKD kvs key d))) := by
  unfold setA putD
  simp only [h, hk, hz, if_true]
theorem inDA_d {n : Nat} {kvs : List (Key × D)} {k : D} {key : Key} (neg : Bool) (h : S[n]? = some (.dct kvs)) (hk : keyOf k = some key) : inDA neg k (.loc n) S = .ok (.bl (if neg then !(valKD kvs key).isSome else (valKD kvs key).isSome)) S := by
  unfold inDA
  rw [dget_l S h hk]
theorem len_d {n : Nat} {kvs : List (Key × D)} (h : S[n]? = some (.dct kvs)) : lenD [.loc n] S = .ok (.int kvs.length) S := by
  unfold lenD lenOf
  simp only [h]
theorem len_dT {n : Nat} {kvs : List (List Key × D)} (h : S[n]? = some (.dcT kvs)) : lenD [.loc n] S = .ok (.int kvs.length) S := by
  unfold lenD lenOf
  simp only [h]
theorem len_s (z : Str) (h : z.length ≤ sizeLine) : lenD [.str z] S = .ok (.int z.length) S := by
  unfold lenD lenOf
  simp only [h, if_true]
theorem tuple_l {n : Nat} {ds : List D} (h : S[n]? = some (.lst ds)) : tupleD [.loc n] S = .ok (.tup ds) S := by
  unfold tupleD itemsOf
  simp only [h]
theorem tuple_t : tupleD [.tup ds] S = .ok (.tup ds) S := id rfl
theorem list_l {n : Nat} {ds : List D} (h : S[n]? = some (.lst ds)) : listD [.loc n] S = .ok (.loc S.length) (S ++ [.lst ds]) := by
  unfold listD itemsOf
  simp only [h]
theorem list_t : listD [.tup ds] S = .ok (.loc S.length) (S ++ [.lst ds]) := id rfl
theorem sl_l {n : Nat} {ds : List D} (lo hi : Option Int) (h : S[n]? = some (.lst ds)) : slD (.loc n) lo hi S = .ok (.loc S.length) (S ++ [.lst (cutD ds lo hi)]) := by
  unfold slD
  simp only [h]
theorem src_s (z : Str) : srcOf (.str z) S = .ok (.txt z) S := id rfl
theorem src_k : srcOf (.ktp ds) S = .ok (.items ds) S := id rfl
theorem mZip_ap : mZip ms r S = bK (ms r S) zipOf := id rfl
theorem zip_tt : zipOf [.tup ds, .tup xs] S = .ok (.zip ds xs) S := id rfl
theorem add_nil_l (h : ds.length ≤ sizeLine) : addD (.tup []) (.tup ds) S = .ok (.tup ds) S := by
  rw [add_tt S [] ds (by simpa using h), List.nil_append]
end
/-! ### walks that change nothing -/
theorem lc_fm {src : Src} (items : List D) (p : D → Bool) (f : D → D) {g : Tg} {t : Env → M Bool} {e : Env → M D} {r : Env} {S0 : Sto} (hn : ∀ l i, nextD src i (S0 ++ l) = some items[i]?)
    (h : ∀ d ∈ items, ∀ l, ∃ r', g d r (S0 ++ l) = .ok r' (S0 ++ l) ∧ t r' (S0 ++ l) = .ok (p d) (S0 ++ l) ∧ (p d = true → e r' (S0 ++ l) = .ok (f d) (S0 ++ l))) (hz : items.length ≤ sizeLine) :
    lcGo src g t e S0.length r items.length 0 (S0 ++ [.lst []]) = .ok (.loc S0.length) (S0 ++ [.lst ((items.filter p).map f)]) := by
  have go : ∀ (k i : Nat), i + k = items.length → lcGo src g t e S0.length r k i (S0 ++ [.lst (((items.take i).filter p).map f)]) = .ok (.loc S0.length) (S0 ++ [.lst ((items.filter p).map f)]) := by
    intro k
    induction k with
    | zero =>
      intro i hi
      have e0 : items[i]? = none := List.getElem?_eq_none_iff.mpr (by omega)
      unfold lcGo
      rw [hn, e0, List.take_of_length_le (by omega)]
    | succ k ih =>
      intro i hi
      have hlt : i < items.length := by omega
      have e0 : items[i]? = some items[i] := List.getElem?_eq_getElem hlt
      obtain ⟨r', h1, h2, h3⟩ := h items[i] (List.getElem_mem hlt) [.lst (((items.take i).filter p).map f)]
      have et : items.take (i + 1) = items.take i ++ [items[i]] := by
        rw [List.take_add_one, e0]
        rfl
      unfold lcGo
      rw [hn, e0]
      simp only [h1, h2]
      cases hp : p items[i] with
      | true =>
        simp only [h3 hp]
        have hq : (S0 ++ [.lst (((items.take i).filter p).map f)])[S0.length]? = some (.lst (((items.take i).filter p).map f)) := at_end _ _
        rw [push_at _ hq (by
          rw [List.length_map]
          have := List.length_filter_le p (items.take i)
          rw [List.length_take] at this
          omega)]
        simp only [set_end]
        have := ih (i + 1) (by omega)
        rw [et, List.filter_append, List.map_append, List.filter_cons, if_pos hp] at this
        exact this
      | false =>
        simp only
        have := ih (i + 1) (by omega)
        rw [et, List.filter_append, List.filter_cons, if_neg (by rw [hp]; simp), List.filter_nil, List.append_nil] at this
        exact this
  simpa using go items.length 0 (by omega)
theorem mLc_fm {m : Env → M Src} {src : Src} (items : List D) (p : D → Bool) (f : D → D) {g : Tg} {t : Env → M Bool} {e : Env → M D} {vs : List Nat} {r : Env} {S S0 : Sto} (hm : m r S = .ok src S0) (ht : turns src S0 = items.length) (hn : ∀ l i, nextD src i (S0 ++ l) = some items[i]?)
    (h : ∀ d ∈ items, ∀ l, ∃ r', g d (wipeE r vs) (S0 ++ l) = .ok r' (S0 ++ l) ∧ t r' (S0 ++ l) = .ok (p d) (S0 ++ l) ∧ (p d = true → e r' (S0 ++ l) = .ok (f d) (S0 ++ l))) (hz : items.length ≤ sizeLine) :
    mLc m g t e vs r S = .ok (.loc S0.length) (S0 ++ [.lst ((items.filter p).map f)]) := by
  unfold mLc
  rw [bnd_ap, hm, bK_ok, ht]
  exact lc_fm items p f hn h hz
theorem mLc_map {m : Env → M Src} {src : Src} (items : List D) (f : D → D) {g : Tg} {e : Env → M D} {vs : List Nat} {r : Env} {S S0 : Sto} (hm : m r S = .ok src S0) (ht : turns src S0 = items.length) (hn : ∀ l i, nextD src i (S0 ++ l) = some items[i]?)
    (h : ∀ d ∈ items, ∀ l, ∃ r', g d (wipeE r vs) (S0 ++ l) = .ok r' (S0 ++ l) ∧ e r' (S0 ++ l) = .ok (f d) (S0 ++ l)) (hz : items.length ≤ sizeLine) :
    mLc m g tT e vs r S = .ok (.loc S0.length) (S0 ++ [.lst (items.map f)]) := by
  have := mLc_fm (t := tT) items (fun _ => true) f hm ht hn (fun d hd l => by
    obtain ⟨r', h1, h2⟩ := h d hd l
    exact ⟨r', h1, rfl, fun _ => h2⟩) hz
  rwa [List.filter_eq_self.mpr (by simp)] at this
theorem mLc_all {m : Env → M Src} {src : Src} (items : List D) (f : D → Bool) {g : Tg} {e : Env → M D} {vs : List Nat} {r : Env} {S S0 : Sto} (hm : m r S = .ok src S0) (ht : turns src S0 = items.length) (hn : ∀ l i, nextD src i (S0 ++ l) = some items[i]?)
    (h : ∀ d ∈ items, ∀ l, ∃ r', g d (wipeE r vs) (S0 ++ l) = .ok r' (S0 ++ l) ∧ e r' (S0 ++ l) = .ok (.bl (f d)) (S0 ++ l)) (hz : items.length ≤ sizeLine) :
    mA allD (mCons (mLc m g tT e vs) mNil) r S = .ok (.bl (items.all f)) (S0 ++ [.lst (items.map fun d => .bl (f d))]) := by
  rw [mA_ap, mCons_ap, mLc_map items (fun d => .bl (f d)) hm ht hn h hz, bK_ok, kCons_ap, mNil_ap, bK_ok, kCon_ap, bK_ok]
  exact all_map f items (at_end _ _)
theorem next_of_items (ds : List D) (l : Sto) (i : Nat) : nextD (.items ds) i l = some ds[i]? := id rfl
/-! dicts that are made by a walk -/
def putsK {κ : Type} [DecidableEq κ] (ks : List κ) : List (κ × D) := ks.foldl (fun acc k => putKD acc k (.bl true)) []
theorem putKD_keys {κ : Type} [DecidableEq κ] (kvs : List (κ × D)) (k : κ) (v : D) : (putKD kvs k v).map (·.1) = if k ∈ kvs.map (·.1) then kvs.map (·.1) else kvs.map (·.1) ++ [k] := by
  unfold putKD
  have hany : (kvs.any fun kv => decide (kv.1 = k)) = true ↔ k ∈ kvs.map (·.1) := by
    simp only [List.any_eq_true, decide_eq_true_eq, List.mem_map]
  by_cases h : k ∈ kvs.map (·.1)
  · rw [if_pos (hany.mpr h), if_pos h, List.map_map]
    apply List.map_congr_left
    intro p _
    show (if p.1 = k then (p.1, v) else p).1 = p.1
    split <;> rfl
  · rw [if_neg (fun z => h (hany.mp z)), if_neg h, List.map_append]
    rfl
theorem putsK_len {κ : Type} [DecidableEq κ] (ks : List κ) : ((putsK ks).length = ks.length ↔ ks.Nodup) ∧ (putsK ks).length ≤ ks.length := by
  have go : ∀ (ks : List κ) (acc : List (κ × D)), (acc.map (·.1)).Nodup →
      ((ks.foldl (fun acc k => putKD acc k (.bl true)) acc).length = acc.length + ks.length ↔ (acc.map (·.1) ++ ks).Nodup) ∧ (ks.foldl (fun acc k => putKD acc k (.bl true)) acc).length ≤ acc.length + ks.length := by
    intro ks
    induction ks with
    | nil =>
      intro acc ha
      simp [ha]
    | cons k ks ih =>
      intro acc ha
      rw [List.foldl_cons]
      have hk := putKD_keys acc k (.bl true)
      have hl : (putKD acc k (.bl true)).length = ((putKD acc k (.bl true)).map (·.1)).length := by simp
      by_cases h : k ∈ acc.map (·.1)
      · rw [if_pos h] at hk
        have hn : ((putKD acc k (.bl true)).map (·.1)).Nodup := by rw [hk]; exact ha
        have hl2 : (putKD acc k (.bl true)).length = acc.length := by rw [hl, hk]; simp
        obtain ⟨i1, i2⟩ := ih _ hn
        rw [hl2] at i2 i1
        refine ⟨⟨fun z => ?_, fun z => ?_⟩, by rw [List.length_cons]; omega⟩
        · rw [List.length_cons] at z
          omega
        · rw [List.nodup_append] at z
          exact absurd rfl (z.2.2 k h k (by simp))
      · rw [if_neg h] at hk
        have hn : ((putKD acc k (.bl true)).map (·.1)).Nodup := by
          rw [hk, List.nodup_append]
          refine ⟨ha, by simp, fun x hx y hy z => ?_⟩
          simp at hy
          subst hy z
          exact h hx
        have hl2 : (putKD acc k (.bl true)).length = acc.length + 1 := by rw [hl, hk]; simp
        obtain ⟨i1, i2⟩ := ih _ hn
        rw [hl2, hk] at i1
        rw [hl2] at i2
        rw [List.length_cons]
        refine ⟨?_, by omega⟩
        rw [show acc.length + (ks.length + 1) = acc.length + 1 + ks.length by omega, i1, List.append_assoc]
        rfl
  have := go ks [] (by simp)
  simpa [putsK] using this
theorem dc_keys {src : Src} (items : List D) (kf : D → Key) (kd : D → D) {g : Tg} {ek ev : Env → M D} {r : Env} {S0 : Sto} (hn : ∀ l i, nextD src i (S0 ++ l) = some items[i]?) (hk : ∀ d ∈ items, keyOf (kd d) = some (kf d))
    (h : ∀ d ∈ items, ∀ l, ∃ r', g d r (S0 ++ l) = .ok r' (S0 ++ l) ∧ ek r' (S0 ++ l) = .ok (kd d) (S0 ++ l) ∧ ev r' (S0 ++ l) = .ok (.bl true) (S0 ++ l)) (hz : items.length ≤ sizeLine) :
    dcGo src g tT ek ev S0.length r items.length 0 (S0 ++ [.dct []]) = .ok (.loc S0.length) (S0 ++ [.dct (putsK (items.map kf))]) := by
  have go : ∀ (k i : Nat), i + k = items.length → dcGo src g tT ek ev S0.length r k i (S0 ++ [.dct (putsK ((items.take i).map kf))]) = .ok (.loc S0.length) (S0 ++ [.dct (putsK (items.map kf))]) := by
    intro k
    induction k with
    | zero =>
      intro i hi
      have e0 : items[i]? = none := List.getElem?_eq_none_iff.mpr (by omega)
      unfold dcGo
      rw [hn, e0, List.take_of_length_le (by omega)]
    | succ k ih =>
      intro i hi
      have hlt : i < items.length := by omega
      have e0 : items[i]? = some items[i] := List.getElem?_eq_getElem hlt
      obtain ⟨r', h1, h2, h3⟩ := h items[i] (List.getElem_mem hlt) [.dct (putsK ((items.take i).map kf))]
      have et : items.take (i + 1) = items.take i ++ [items[i]] := by
        rw [List.take_add_one, e0]
        rfl
      unfold dcGo
      rw [hn, e0]
      simp only [h1, show tT r' (S0 ++ [.dct (putsK ((items.take i).map kf))]) = .ok true (S0 ++ [.dct (putsK ((items.take i).map kf))]) from rfl, h2, h3]
      have hq : (S0 ++ [.dct (putsK ((items.take i).map kf))])[S0.length]? = some (.dct (putsK ((items.take i).map kf))) := at_end _ _
      have hl := (putsK_len ((items.take i).map kf)).2
      rw [List.length_map, List.length_take] at hl
      have hp : putD S0.length (kd items[i]) (.bl true) (S0 ++ [.dct (putsK ((items.take i).map kf))]) = some (S0 ++ [.dct (putKD (putsK ((items.take i).map kf)) (kf items[i]) (.bl true))]) := by
        unfold putD
        simp only [hq, hk _ (List.getElem_mem hlt), show (putsK ((items.take i).map kf)).length < sizeLine by omega, if_true, set_end]
      simp only [hp]
      have := ih (i + 1) (by omega)
      rw [et, List.map_append] at this
      unfold putsK at this ⊢
      rw [List.foldl_append] at this
      exact this
  simpa [putsK] using go items.length 0 (by omega)
theorem mDc_keys {m : Env → M Src} {src : Src} (items : List D) (kf : D → Key) (kd : D → D) {g : Tg} {ek ev : Env → M D} {vs : List Nat} {r : Env} {S S0 : Sto} (hm : m r S = .ok src S0) (ht : turns src S0 = items.length) (hn : ∀ l i, nextD src i (S0 ++ l) = some items[i]?) (hk : ∀ d ∈ items, keyOf (kd d) = some (kf d))
    (h : ∀ d ∈ items, ∀ l, ∃ r', g d (wipeE r vs) (S0 ++ l) = .ok r' (S0 ++ l) ∧ ek r' (S0 ++ l) = .ok (kd d) (S0 ++ l) ∧ ev r' (S0 ++ l) = .ok (.bl true) (S0 ++ l)) (hz : items.length ≤ sizeLine) :
    mDc false m g tT ek ev vs r S = .ok (.loc S0.length) (S0 ++ [.dct (putsK (items.map kf))]) := by
  unfold mDc
  rw [bnd_ap, hm, bK_ok, ht]
  exact dc_keys items kf kd hn hk h hz
theorem dcT_keys {src : Src} (items : List D) (kf : D → List Key) (kd : D → List D) {g : Tg} {ek ev : Env → M D} {r : Env} {S0 : Sto} (hn : ∀ l i, nextD src i (S0 ++ l) = some items[i]?) (hk : ∀ d ∈ items, keysOf (kd d) = some (kf d))
    (h : ∀ d ∈ items, ∀ l, ∃ r', g d r (S0 ++ l) = .ok r' (S0 ++ l) ∧ ek r' (S0 ++ l) = .ok (.ttp (kd d)) (S0 ++ l) ∧ ev r' (S0 ++ l) = .ok (.bl true) (S0 ++ l)) (hz : items.length ≤ sizeLine) :
    dcGo src g tT ek ev S0.length r items.length 0 (S0 ++ [.dcT []]) = .ok (.loc S0.length) (S0 ++ [.dcT (putsK (items.map kf))]) := by
  have go : ∀ (k i : Nat), i + k = items.length → dcGo src g tT ek ev S0.length r k i (S0 ++ [.dcT (putsK ((items.take i).map kf))]) = .ok (.loc S0.length) (S0 ++ [.dcT (putsK (items.map kf))]) := by
    intro k
    induction k with
    | zero =>
      intro i hi
      have e0 : items[i]? = none := List.getElem?_eq_none_iff.mpr (by omega)
      unfold dcGo
      rw [hn, e0, List.take_of_length_le (by omega)]
    | succ k ih =>
      intro i hi
      have hlt : i < items.length := by omega
      have e0 : items[i]? = some items[i] := List.getElem?_eq_getElem hlt
      obtain ⟨r', h1, h2, h3⟩ := h items[i] (List.getElem_mem hlt) [.dcT (putsK ((items.take i).map kf))]
      have et : items.take (i + 1) = items.take i ++ [items[i]] := by
        rw [List.take_add_one, e0]
        rfl
      unfold dcGo
      rw [hn, e0]
      simp only [h1, show tT r' (S0 ++ [.dcT (putsK ((items.take i).map kf))]) = .ok true (S0 ++ [.dcT (putsK ((items.take i).map kf))]) from rfl, h2, h3]
      have hq : (S0 ++ [.dcT (putsK ((items.take i).map kf))])[S0.length]? = some (.dcT (putsK ((items.take i).map kf))) := at_end _ _
      have hl := (putsK_len ((items.take i).map kf)).2
      rw [List.length_map, List.length_take] at hl
      have hp : putD S0.length (.ttp (kd items[i])) (.bl true) (S0 ++ [.dcT (putsK ((items.take i).map kf))]) = some (S0 ++ [.dcT (putKD (putsK ((items.take i).map kf)) (kf items[i]) (.bl true))]) := by
        unfold putD
        simp only [hq, hk _ (List.getElem_mem hlt), show (putsK ((items.take i).map kf)).length < sizeLine by omega, if_true, set_end]
      simp only [hp]
      have := ih (i + 1) (by omega)
      rw [et, List.map_append] at this
      unfold putsK at this ⊢
      rw [List.foldl_append] at this
      exact this
  simpa [putsK] using go items.length 0 (by omega)
theorem mDcT_keys {m : Env → M Src} {src : Src} (items : List D) (kf : D → List Key) (kd : D → List D) {g : Tg} {ek ev : Env → M D} {vs : List Nat} {r : Env} {S S0 : Sto} (hm : m r S = .ok src S0) (ht : turns src S0 = items.length) (hn : ∀ l i, nextD src i (S0 ++ l) = some items[i]?) (hk : ∀ d ∈ items, keysOf (kd d) = some (kf d))
    (h : ∀ d ∈ items, ∀ l, ∃ r', g d (wipeE r vs) (S0 ++ l) = .ok r' (S0 ++ l) ∧ ek r' (S0 ++ l) = .ok (.ttp (kd d)) (S0 ++ l) ∧ ev r' (S0 ++ l) = .ok (.bl true) (S0 ++ l)) (hz : items.length ≤ sizeLine) :
    mDc true m g tT ek ev vs r S = .ok (.loc S0.length) (S0 ++ [.dcT (putsK (items.map kf))]) := by
  unfold mDc
  rw [bnd_ap, hm, bK_ok, ht]
  exact dcT_keys items kf kd hn hk h hz
/-! ### the values that a law hands in -/
mutual
def okD (S : Sto) : D → Bool
  | .non | .bl _ | .int _ => true
  | .str z => decide (z.length ≤ 1000)
  | .tup ds => decide (ds.length ≤ 1000) && okDs S ds
  | .loc n => match S[n]? with
    | some (.lst _) => true
    | some (.dct _) => true
    | _ => false
  | _ => false
def okDs (S : Sto) : List D → Bool
  | [] => true
  | d :: ds => okD S d && okDs S ds
end
theorem okDs_iff {S : Sto} : ∀ {ds : List D}, okDs S ds = true ↔ ∀ d ∈ ds, okD S d = true
  | [] => by simp [okDs]
  | d :: ds => by simp only [okDs, Bool.and_eq_true, okDs_iff (ds := ds), List.mem_cons, forall_eq_or_imp]
theorem okD_tup {S : Sto} {ds : List D} (h : okD S (.tup ds) = true) : ds.length ≤ 1000 ∧ ∀ d ∈ ds, okD S d = true := by
  simp only [okD, Bool.and_eq_true, decide_eq_true_eq] at h
  exact ⟨h.1, okDs_iff.mp h.2⟩
theorem okD_of {S : Sto} {ds : List D} (h1 : ds.length ≤ 1000) (h : ∀ d ∈ ds, okD S d = true) : okD S (.tup ds) = true := by
  simp only [okD, Bool.and_eq_true, decide_eq_true_eq]
  exact ⟨h1, okDs_iff.mpr h⟩
mutual
theorem okD_app {S l : Sto} : ∀ {d : D}, okD S d = true → okD (S ++ l) d = true
  | .non, _ | .bl _, _ | .int _, _ => rfl
  | .str z, h => h
  | .tup ds, h => by
    simp only [okD, Bool.and_eq_true] at h ⊢
    exact ⟨h.1, okDs_app h.2⟩
  | .loc n, h => by
    unfold okD at h ⊢
    cases e : S[n]? with
    | none => rw [e] at h; cases h
    | some o =>
      rw [e] at h
      rw [at_old e]
      exact h
theorem okDs_app {S l : Sto} : ∀ {ds : List D}, okDs S ds = true → okDs (S ++ l) ds = true
  | [], _ => rfl
  | d :: ds, h => by
    simp only [okDs, Bool.and_eq_true] at h ⊢
    exact ⟨okD_app h.1, okDs_app h.2⟩
end
def isTup : D → Bool
  | .tup _ => true
  | _ => false
def isStr : D → Bool
  | .str _ => true
  | _ => false
def isBoo : D → Bool
  | .bl _ => true
  | _ => false
def isNum : D → Bool
  | .int _ => true
  | .bl _ => true
  | _ => false
theorem isi_tup {S : Sto} {v : D} (h : okD S v = true) : isiD [v, .ty "tuple"] S = .ok (.bl (isTup v)) S := by
  cases v with
  | loc n =>
    unfold okD at h
    unfold isiD tyD
    cases e : S[n]? with
    | none => rw [e] at h; cases h
    | some o => cases o <;> first | (simp only [e]; rfl) | (simp [e] at h)
  | _ => first | rfl | (simp [okD] at h)
theorem isi_str {S : Sto} {v : D} (h : okD S v = true) : isiD [v, .ty "str"] S = .ok (.bl (isStr v)) S := by
  cases v with
  | loc n =>
    unfold okD at h
    unfold isiD tyD
    cases e : S[n]? with
    | none => rw [e] at h; cases h
    | some o => cases o <;> first | (simp only [e]; rfl) | (simp [e] at h)
  | _ => first | rfl | (simp [okD] at h)
theorem isi_int {S : Sto} {v : D} (h : okD S v = true) : isiD [v, .ty "int"] S = .ok (.bl (isNum v)) S := by
  cases v with
  | loc n =>
    unfold okD at h
    unfold isiD tyD
    cases e : S[n]? with
    | none => rw [e] at h; cases h
    | some o => cases o <;> first | (simp only [e]; rfl) | (simp [e] at h)
  | _ => first | rfl | (simp [okD] at h)
theorem isi_bool {S : Sto} {v : D} (h : okD S v = true) : isiD [v, .ty "bool"] S = .ok (.bl (isBoo v)) S := by
  cases v with
  | loc n =>
    unfold okD at h
    unfold isiD tyD
    cases e : S[n]? with
    | none => rw [e] at h; cases h
    | some o => cases o <;> first | (simp only [e]; rfl) | (simp [e] at h)
  | _ => first | rfl | (simp [okD] at h)
end Fa
namespace Fa
open PySem PySem.Spec PyProof.Rows L2
/-! ### t == () -/
section
variable {K : PySem.W.Frag} {X : Cx}
def rEqE (K : PySem.W.Frag) : R2 := fun x y H Q => (∃ a b xs, x = .ref a ∧ y = .ref b ∧ SqT K H a xs ∧ SqT K H b [] ∧ Q (.bl xs.isEmpty) H) ∨ rEqA K x y H Q
theorem op_eqE (hu : X.A.units + 64 < cLine) : OpR X (compareOp .Eq) (rEqE X.K) := OpR.or (fun pins s σ H x y v u Q I rx ry h => by
  obtain ⟨a, b, xs, rfl, rfl, ha, hb, q⟩ := h
  cases rx
  cases ry
  obtain ⟨its, r1, p1, _⟩ := I.tuple ha
  obtain ⟨its2, r2, p2, _⟩ := I.tuple hb
  cases r2
  have e : ((List.range (min its.toArray.size ([] : List Value).toArray.size)).all (fun _ => true) && its.toArray.size == ([] : List Value).toArray.size) = xs.isEmpty := by
    have := r1.length
    cases xs with
    | nil =>
      cases r1
      rfl
    | cons x xs =>
      cases r1
      simp
  refine SeqAt.RcAt.tuples (e := fun _ => true) p1 p2 (by omega) (fun j h1 h2 => absurd h2 (by simp)) X.prog X.w _ _ ?_
  rw [e]
  exact ⟨.bl _, H, I, rfl, q⟩) (op_eqA hu)
def eqE : D → D → M D
  | .tup ds, .tup [] => ret (.bl ds.isEmpty)
  | x, y => eqB false x y
theorem o_eqE : Op2 K (rEqE K) eqE := by
  intro W σ mu H S x y v w Q hS rx ry hp
  unfold eqE at hp
  split at hp
  · rename_i ds
    cases rx with
    | tup hd h r =>
      cases ry with
      | tup hd' h' r' =>
        cases r'
        refine .inl ⟨_, _, _, rfl, rfl, sqT_t h, sqT_t h', ?_⟩
        have h3 := hp mu H Ext.refl hS (.bl ds.isEmpty) (.bl _)
        cases r with
        | nil => exact h3
        | cons _ _ => exact h3
  · exact .inr (o_eq W σ mu H S _ _ v w Q hS rx ry hp)
theorem eqE_t (ds : List D) (S : Sto) : eqE (.tup ds) (.tup []) S = .ok (.bl ds.isEmpty) S := id rfl
end
end Fa
namespace Fa
open PySem PySem.Spec PyProof.Rows L2
theorem gq_new0 {F : List D → M D} {ds : List D} {S : Sto} {d : D} (h : F ds S = .ok d S) (hd : ltD' S.length d = true) : gq F ds S = .ok d S := gq_new (l := []) (by rw [h, List.append_nil]) hd
theorem flats_strs : ∀ ns : List Str, flats (ns.map D.str) = some (ns.map V.str)
  | [] => rfl
  | n :: ns => by
    show (match flat1 (.str n), flats (ns.map D.str) with
      | some v, some vs => some (v :: vs)
      | _, _ => none) = _
    rw [flats_strs ns]
    rfl
theorem inV_strs (z : Str) : ∀ ns : List Str, inV (.str z) (ns.map V.str) = decide (z ∈ ns)
  | [] => by simp [inV]
  | n :: ns => by
    have := inV_strs z ns
    unfold inV at this ⊢
    rw [List.map_cons, List.any_cons, this]
    by_cases h : n = z
    · subst h
      simp [eqV]
    · have h' : ¬ z = n := fun e => h e.symm
      have : (n == z) = false := beq_eq_false_iff_ne.mpr h
      simp only [eqV, this, List.mem_cons, h', false_or, Bool.false_or]
theorem in_strs (neg : Bool) (z : Str) (ns : List Str) (S : Sto) : inD neg (.str z) (.tup (ns.map D.str)) S = .ok (.bl (if neg then !decide (z ∈ ns) else decide (z ∈ ns))) S := by
  show (match flat1 (.str z), (some (ns.map D.str)).bind flats with
    | some v, some vs => Res.ok (D.bl (if neg then !inV v vs else inV v vs)) S
    | _, _ => _) = _
  rw [Option.bind_some, flats_strs]
  show Res.ok (D.bl (if neg then !inV (.str z) (ns.map V.str) else inV (.str z) (ns.map V.str))) S = _
  rw [inV_strs]
theorem in_strsK (neg : Bool) (z : Str) (ns : List Str) (S : Sto) : inD neg (.str z) (.ktp (ns.map D.str)) S = .ok (.bl (if neg then !decide (z ∈ ns) else decide (z ∈ ns))) S := by
  show (match flat1 (.str z), (some (ns.map D.str)).bind flats with
    | some v, some vs => Res.ok (D.bl (if neg then !inV v vs else inV v vs)) S
    | _, _ => _) = _
  rw [Option.bind_some, flats_strs]
  show Res.ok (D.bl (if neg then !inV (.str z) (ns.map V.str) else inV (.str z) (ns.map V.str))) S = _
  rw [inV_strs]
theorem in_sign (neg : Bool) (c : Nat) (z : Str) (S : Sto) : inD neg (.str ⟨#[c]⟩) (.str z) S = .ok (.bl (if neg then !decide (c ∈ z.cps.toList) else decide (c ∈ z.cps.toList))) S := id rfl
theorem ix_tn {ds : List D} {k : Nat} {d : D} (S : Sto) (h : ds[k]? = some d) : ixD (.tup ds) (.int (k : Int)) S = .ok d S := ix_t S (atI_nat h)
theorem all_at {n : Nat} {S : Sto} (f : D → Bool) (xs : List D) (h : S[n]? = some (.lst (xs.map fun x => .bl (f x)))) : allD [.loc n] S = .ok (.bl (xs.all f)) S := all_map f xs h
theorem nextD_txt (z : Str) (i : Nat) (S : Sto) : nextD (.txt z) i S = some (z.cps.toList.map fun c => D.str ⟨#[c]⟩)[i]? := by
  show some (z.cps[i]?.map fun c => D.str ⟨#[c]⟩) = _
  rw [List.getElem?_map]
  congr 2
  simp
def kTM (f : D → List D → M D) (a : Env → M (List D)) (r : Env) (x : D) : M D := match x with
  | .ktp _ => bnd (a r) fun xs => f x xs
  | .tup _ => bnd (a r) fun xs => f x xs
  | _ => fail
theorem mTM_ap (f : D → List D → M D) (o : Env → M D) (a : Env → M (List D)) (r : Env) (S : Sto) : mTM f o a r S = bK (o r S) (kTM f a r) := by
  unfold mTM kTM
  rw [bnd_ap]
  all_goals congr 1
theorem kTM_k (f : D → List D → M D) (a : Env → M (List D)) (r : Env) (ds : List D) (S : Sto) : kTM f a r (.ktp ds) S = bK (a r S) (f (.ktp ds)) := id rfl
theorem kTM_t (f : D → List D → M D) (a : Env → M (List D)) (r : Env) (ds : List D) (S : Sto) : kTM f a r (.tup ds) S = bK (a r S) (f (.tup ds)) := id rfl
theorem idx_k {ds : List D} {z : Str} {j : Nat} (S : Sto) (h : (strsOf ds).bind (seek z) = some j) : idxA (.ktp ds) [.str z] S = .ok (.int j) S := by
  unfold idxA
  simp only [h]
  rfl
theorem idx_t {ds : List D} {z : Str} {j : Nat} (S : Sto) (h : (strsOf ds).bind (seek z) = some j) : idxA (.tup ds) [.str z] S = .ok (.int j) S := by
  unfold idxA
  simp only [h]
  rfl
theorem nc0 : ((0 : Nat) : Int) = 0 := id rfl
theorem nc1 : ((1 : Nat) : Int) = 1 := id rfl
theorem nc2 : ((2 : Nat) : Int) = 2 := id rfl
theorem nc3 : ((3 : Nat) : Int) = 3 := id rfl
theorem nc4 : ((4 : Nat) : Int) = 4 := id rfl
theorem nc5 : ((5 : Nat) : Int) = 5 := id rfl
theorem nc6 : ((6 : Nat) : Int) = 6 := id rfl
theorem nc7 : ((7 : Nat) : Int) = 7 := id rfl
theorem nc8 : ((8 : Nat) : Int) = 8 := id rfl
theorem nc9 : ((9 : Nat) : Int) = 9 := id rfl
theorem nc10 : ((10 : Nat) : Int) = 10 := id rfl
theorem nc11 : ((11 : Nat) : Int) = 11 := id rfl
theorem nc12 : ((12 : Nat) : Int) = 12 := id rfl
theorem nc13 : ((13 : Nat) : Int) = 13 := id rfl
theorem nc14 : ((14 : Nat) : Int) = 14 := id rfl
theorem nc15 : ((15 : Nat) : Int) = 15 := id rfl
end Fa
namespace Fa
open PySem PySem.Spec PyProof.Rows L2
/-! ### xs == [], xs != [], t != () -/
section
variable {K : PySem.W.Frag} {X : Cx}
def rEq0 (K : PySem.W.Frag) : R2 := fun x y H Q => (∃ a b xs, x = .ref a ∧ y = .ref b ∧ SqL K H a xs ∧ SqL K H b [] ∧ Q (.bl xs.isEmpty) H) ∨ rEqE K x y H Q
def rNe0 (K : PySem.W.Frag) : R2 := fun x y H Q => (∃ a b xs, x = .ref a ∧ y = .ref b ∧ SqL K H a xs ∧ SqL K H b [] ∧ Q (.bl (!xs.isEmpty)) H) ∨ (∃ a b xs, x = .ref a ∧ y = .ref b ∧ SqT K H a xs ∧ SqT K H b [] ∧ Q (.bl (!xs.isEmpty)) H) ∨ rNeA K x y H Q
theorem op_eq0 (hu : X.A.units + 64 < cLine) : OpR X (compareOp .Eq) (rEq0 X.K) := OpR.or (fun pins s σ H x y v u Q I rx ry h => by
  obtain ⟨a, b, xs, rfl, rfl, ha, hb, q⟩ := h
  cases rx
  cases ry
  obtain ⟨its, r1, p1, _⟩ := I.list ha
  obtain ⟨its2, r2, p2, _⟩ := I.list hb
  cases r2
  cases xs with
  | nil =>
    cases r1
    exact SeqAt.RcAt.lists (e := fun _ => true) p1.isList p2.isList rfl (by omega) (fun j h1 h2 => absurd h2 (by simp)) X.prog X.w _ _ ⟨.bl true, H, I, rfl, q⟩
  | cons x xs =>
    cases r1
    exact SeqAt.RcAt.lists_lengths p1.isList p2.isList (by simp) (by omega) X.prog X.w _ _ ⟨.bl false, H, I, rfl, q⟩) (op_eqE hu)
theorem op_ne0 (hu : X.A.units + 64 < cLine) : OpR X (compareOp .NotEq) (rNe0 X.K) := OpR.or (fun pins s σ H x y v u Q I rx ry h => by
  obtain ⟨a, b, xs, rfl, rfl, ha, hb, q⟩ := h
  cases rx
  cases ry
  obtain ⟨its, r1, p1, _⟩ := I.list ha
  obtain ⟨its2, r2, p2, _⟩ := I.list hb
  cases r2
  cases xs with
  | nil =>
    cases r1
    exact SeqAt.RcNeAt.lists (e := fun _ => true) p1.isList p2.isList rfl (by omega) (fun j h1 h2 => absurd h2 (by simp)) X.prog X.w _ _ ⟨.bl false, H, I, rfl, q⟩
  | cons x xs =>
    cases r1
    exact SeqAt.RcNeAt.lists_lengths p1.isList p2.isList (by simp) (by omega) X.prog X.w _ _ ⟨.bl true, H, I, rfl, q⟩) (OpR.or (fun pins s σ H x y v u Q I rx ry h => by
  obtain ⟨a, b, xs, rfl, rfl, ha, hb, q⟩ := h
  cases rx
  cases ry
  obtain ⟨its, r1, p1, _⟩ := I.tuple ha
  obtain ⟨its2, r2, p2, _⟩ := I.tuple hb
  cases r2
  have e : (!((List.range (min its.toArray.size ([] : List Value).toArray.size)).all (fun _ => true) && its.toArray.size == ([] : List Value).toArray.size)) = !xs.isEmpty := by
    cases xs with
    | nil =>
      cases r1
      rfl
    | cons x xs =>
      cases r1
      simp
  refine SeqAt.RcNeAt.tuples (e := fun _ => true) p1 p2 (by omega) (fun j h1 h2 => absurd h2 (by simp)) X.prog X.w _ _ ?_
  rw [e]
  exact ⟨.bl _, H, I, rfl, q⟩) (op_neA hu))
def eq0 (neg : Bool) : D → D → M D := fun x y S => match lstAt S x, lstAt S y with
  | some (_, xs), some (_, []) => .ok (.bl (if neg then !xs.isEmpty else xs.isEmpty)) S
  | _, _ => match x, y with
    | .tup ds, .tup [] => .ok (.bl (if neg then !ds.isEmpty else ds.isEmpty)) S
    | x, y => eqB neg x y S
theorem reps_emp {mu : List Addr} {H : Hp} {vs : List V} {ds : List D} (r : Reps K mu H vs ds) : ds.isEmpty = vs.isEmpty := by
  cases r <;> rfl
theorem o_eq0 : Op2 K (rEq0 K) (eq0 false) := by
  intro W σ mu H S x y v w Q hS rx ry hp
  unfold eq0 at hp
  split at hp
  · rename_i n xs m e1 e2
    obtain ⟨a, vs, rfl, rfl, _, _, h1, r1⟩ := lstAt_of hS rx e1
    obtain ⟨b, ws, rfl, rfl, _, _, h2, r2⟩ := lstAt_of hS ry e2
    cases r2
    refine .inl ⟨a, b, vs, rfl, rfl, .inl (.inl h1), .inl (.inl h2), ?_⟩
    rw [← reps_emp r1]
    exact hp mu H Ext.refl hS _ (.bl _)
  · split at hp
    · rename_i ds _
      cases rx with
      | tup hd h r =>
        cases ry with
        | tup hd' h' r' =>
          cases r'
          refine .inr (.inl ⟨_, _, _, rfl, rfl, sqT_t h, sqT_t h', ?_⟩)
          rw [← reps_emp r]
          exact hp mu H Ext.refl hS _ (.bl _)
    · exact .inr (.inr (o_eq W σ mu H S _ _ v w Q hS rx ry hp))
theorem o_ne0 : Op2 K (rNe0 K) (eq0 true) := by
  intro W σ mu H S x y v w Q hS rx ry hp
  unfold eq0 at hp
  split at hp
  · rename_i n xs m e1 e2
    obtain ⟨a, vs, rfl, rfl, _, _, h1, r1⟩ := lstAt_of hS rx e1
    obtain ⟨b, ws, rfl, rfl, _, _, h2, r2⟩ := lstAt_of hS ry e2
    cases r2
    refine .inl ⟨a, b, vs, rfl, rfl, .inl (.inl h1), .inl (.inl h2), ?_⟩
    rw [← reps_emp r1]
    exact hp mu H Ext.refl hS _ (.bl _)
  · split at hp
    · rename_i ds _
      cases rx with
      | tup hd h r =>
        cases ry with
        | tup hd' h' r' =>
          cases r'
          refine .inr (.inl ⟨_, _, _, rfl, rfl, sqT_t h, sqT_t h', ?_⟩)
          rw [← reps_emp r]
          exact hp mu H Ext.refl hS _ (.bl _)
    · exact .inr (.inr (o_ne W σ mu H S _ _ v w Q hS rx ry hp))
theorem eq0_l {n m : Nat} {S : Sto} {xs : List D} (neg : Bool) (h : S[n]? = some (.lst xs)) (h2 : S[m]? = some (.lst [])) : eq0 neg (.loc n) (.loc m) S = .ok (.bl (if neg then !xs.isEmpty else xs.isEmpty)) S := by
  unfold eq0
  rw [lstAt_l h, lstAt_l h2]
theorem eq0_t (neg : Bool) (ds : List D) (S : Sto) : eq0 neg (.tup ds) (.tup []) S = .ok (.bl (if neg then !ds.isEmpty else ds.isEmpty)) S := id rfl
end
theorem gT_tt (k : List D → Env → M Env) (ds : List D) (r : Env) (S : Sto) : gT k (.ttp ds) r S = k ds r S := id rfl
/-- a call that changes things in place alone -/
theorem gq_same {F : List D → M D} {ds : List D} {S S' : Sto} {d : D} (h : F ds S = .ok d S') (hl : S'.length = S.length) (hd : ltD' S.length d = true) (ht : Trim S.length S S') : gq F ds S = .ok d S' := by
  unfold gq
  rw [h]
  simp only
  rw [if_pos ⟨hd, ht⟩, List.take_of_length_le (by omega)]
/-! dicts of pairs -/
def putsKV {κ : Type} [DecidableEq κ] (kvs : List (κ × D)) : List (κ × D) := kvs.foldl (fun acc kv => putKD acc kv.1 kv.2) []
theorem putKD_new {κ : Type} [DecidableEq κ] {kvs : List (κ × D)} {k : κ} {v : D} (h : k ∉ kvs.map (·.1)) : putKD kvs k v = kvs ++ [(k, v)] := by
  unfold putKD
  rw [if_neg]
  intro z
  apply h
  simp only [List.any_eq_true, decide_eq_true_eq] at z
  obtain ⟨p, hp, e⟩ := z
  exact List.mem_map.mpr ⟨p, hp, e⟩
theorem putsKV_nodup {κ : Type} [DecidableEq κ] {kvs : List (κ × D)} (h : (kvs.map (·.1)).Nodup) : putsKV kvs = kvs := by
  have go : ∀ (more acc : List (κ × D)), ((acc ++ more).map (·.1)).Nodup → more.foldl (fun acc kv => putKD acc kv.1 kv.2) acc = acc ++ more := by
    intro more
    induction more with
    | nil => intro acc _; simp
    | cons p more ih =>
      intro acc hn
      rw [List.foldl_cons]
      have hp : p.1 ∉ acc.map (·.1) := fun z => by
        rw [List.map_append, List.nodup_append] at hn
        exact hn.2.2 p.1 z p.1 (by simp) rfl
      rw [putKD_new hp, ih (acc ++ [p]) (by simpa using hn)]
      simp
  simpa [putsKV] using go kvs [] (by simpa using h)
theorem dc_kv {src : Src} (items : List D) (kf : D → Key) (kd vd : D → D) {g : Tg} {ek ev : Env → M D} {r : Env} {S0 : Sto} (hn : ∀ l i, nextD src i (S0 ++ l) = some items[i]?) (hk : ∀ d ∈ items, keyOf (kd d) = some (kf d)) (hnd : (items.map kf).Nodup)
    (h : ∀ d ∈ items, ∀ l, ∃ r', g d r (S0 ++ l) = .ok r' (S0 ++ l) ∧ ek r' (S0 ++ l) = .ok (kd d) (S0 ++ l) ∧ ev r' (S0 ++ l) = .ok (vd d) (S0 ++ l)) (hz : items.length ≤ sizeLine) :
    dcGo src g tT ek ev S0.length r items.length 0 (S0 ++ [.dct []]) = .ok (.loc S0.length) (S0 ++ [.dct (items.map fun d => (kf d, vd d))]) := by
  have go : ∀ (k i : Nat), i + k = items.length → dcGo src g tT ek ev S0.length r k i (S0 ++ [.dct ((items.take i).map fun d => (kf d, vd d))]) = .ok (.loc S0.length) (S0 ++ [.dct (items.map fun d => (kf d, vd d))]) := by
    intro k
    induction k with
    | zero =>
      intro i hi
      have e0 : items[i]? = none := List.getElem?_eq_none_iff.mpr (by omega)
      unfold dcGo
      rw [hn, e0, List.take_of_length_le (by omega)]
    | succ k ih =>
      intro i hi
      have hlt : i < items.length := by omega
      have e0 : items[i]? = some items[i] := List.getElem?_eq_getElem hlt
      obtain ⟨r', h1, h2, h3⟩ := h items[i] (List.getElem_mem hlt) [.dct ((items.take i).map fun d => (kf d, vd d))]
      have et : items.take (i + 1) = items.take i ++ [items[i]] := by
        rw [List.take_add_one, e0]
        rfl
      unfold dcGo
      rw [hn, e0]
      simp only [h1, show tT r' (S0 ++ [.dct ((items.take i).map fun d => (kf d, vd d))]) = .ok true (S0 ++ [.dct ((items.take i).map fun d => (kf d, vd d))]) from rfl, h2, h3]
      have hq : (S0 ++ [.dct ((items.take i).map fun d => (kf d, vd d))])[S0.length]? = some (.dct ((items.take i).map fun d => (kf d, vd d))) := at_end _ _
      have hnew : kf items[i] ∉ ((items.take i).map fun d => (kf d, vd d)).map (·.1) := by
        have hs : (items.take (i + 1)).map kf <+: items.map kf := (List.take_prefix _ _).map kf
        have hn2 : ((items.take (i + 1)).map kf).Nodup := hnd.sublist hs.sublist
        rw [et, List.map_append, List.nodup_append] at hn2
        rw [List.map_map]
        intro z
        exact hn2.2.2 _ z _ (by simp) rfl
      have hp : putD S0.length (kd items[i]) (vd items[i]) (S0 ++ [.dct ((items.take i).map fun d => (kf d, vd d))]) = some (S0 ++ [.dct ((items.take (i + 1)).map fun d => (kf d, vd d))]) := by
        unfold putD
        simp only [hq, hk _ (List.getElem_mem hlt), show ((items.take i).map fun d => (kf d, vd d)).length < sizeLine by rw [List.length_map, List.length_take]; omega, if_true, set_end]
        rw [putKD_new hnew, et, List.map_append]
        rfl
      simp only [hp]
      exact ih (i + 1) (by omega)
  simpa using go items.length 0 (by omega)
theorem mDc_kv {m : Env → M Src} {src : Src} (items : List D) (kf : D → Key) (kd vd : D → D) {g : Tg} {ek ev : Env → M D} {vs : List Nat} {r : Env} {S S0 : Sto} (hm : m r S = .ok src S0) (ht : turns src S0 = items.length) (hn : ∀ l i, nextD src i (S0 ++ l) = some items[i]?) (hk : ∀ d ∈ items, keyOf (kd d) = some (kf d)) (hnd : (items.map kf).Nodup)
    (h : ∀ d ∈ items, ∀ l, ∃ r', g d (wipeE r vs) (S0 ++ l) = .ok r' (S0 ++ l) ∧ ek r' (S0 ++ l) = .ok (kd d) (S0 ++ l) ∧ ev r' (S0 ++ l) = .ok (vd d) (S0 ++ l)) (hz : items.length ≤ sizeLine) :
    mDc false m g tT ek ev vs r S = .ok (.loc S0.length) (S0 ++ [.dct (items.map fun d => (kf d, vd d))]) := by
  unfold mDc
  rw [bnd_ap, hm, bK_ok, ht]
  exact dc_kv items kf kd vd hn hk hnd h hz
end Fa
namespace Fa
open PySem PySem.Spec PyProof.Rows L2
/-! ### repr of plain data -/
mutual
def pyD : D → PyData
  | .bl b => .bool b
  | .int i => .int i
  | .str x => .str x
  | .tup ds => .tuple (pyDs ds)
  | .non => .none
  | .ktp _ | .ttp _ | .rls _ | .loc _ | .adr _ | .ty _ | .exn _ _ _ => .none
def pyDs : List D → List PyData
  | [] => []
  | d :: ds => pyD d :: pyDs ds
end
def strG (x : Str) : Bool := x.cps.toList.all fun c => decide (c < 16 ^ 8)
mutual
/-- plain data, so deep at most -/
def rG : Nat → D → Bool
  | _, .non => true
  | _, .bl _ => true
  | _, .int i => decide (0 ≤ i) && decide (i < 10 ^ 10)
  | _, .str x => strG x
  | 0, .tup _ => false
  | n + 1, .tup ds => rGs n ds
  | _, .ktp _ | _, .ttp _ | _, .rls _ | _, .loc _ | _, .adr _ | _, .ty _ | _, .exn _ _ _ => false
def rGs : Nat → List D → Bool
  | _, [] => true
  | n, d :: ds => rG n d && rGs n ds
end
mutual
/-- no more signs than so many -/
def rWd : D → Nat
  | .bl _ => 5
  | .int _ => 11
  | .str x => 10 * x.length + 2
  | .tup ds => rWs ds + 3
  | .non => 4
  | .ktp _ | .ttp _ | .rls _ | .loc _ | .adr _ | .ty _ | .exn _ _ _ => 0
def rWs : List D → Nat
  | [] => 0
  | d :: ds => rWd d + 2 + rWs ds
end
mutual
theorem snap_rG (S : Sto) : ∀ {n : Nat} {d : D} (k : Nat), rG n d = true → n < k → snap S k d = some (pyD d)
  | _, .non, k + 1, _, _ => rfl
  | _, .bl _, k + 1, _, _ => rfl
  | _, .int _, k + 1, _, _ => rfl
  | _, .str _, k + 1, _, _ => rfl
  | n + 1, .tup ds, k + 1, h, hk => by
    have h' : rGs n ds = true := by simpa [rG] using h
    show (snapL (snap S k) ds).map PyData.tuple = some (.tuple (pyDs ds))
    rw [snapL_rG S k h' (by omega)]
    rfl
  | 0, .tup ds, k + 1, h, _ => by simp [rG] at h
  | _, .ktp _, _, h, _ => by simp [rG] at h
  | _, .ttp _, _, h, _ => by simp [rG] at h
  | _, .rls _, _, h, _ => by simp [rG] at h
  | _, .loc _, _, h, _ => by simp [rG] at h
  | _, .adr _, _, h, _ => by simp [rG] at h
  | _, .ty _, _, h, _ => by simp [rG] at h
  | _, .exn _ _ _, _, h, _ => by simp [rG] at h
  | n, .non, 0, _, hk => absurd hk (by omega)
  | n, .bl _, 0, _, hk => absurd hk (by omega)
  | n, .int _, 0, _, hk => absurd hk (by omega)
  | n, .str _, 0, _, hk => absurd hk (by omega)
  | n, .tup _, 0, _, hk => absurd hk (by omega)
theorem snapL_rG (S : Sto) : ∀ {n : Nat} {ds : List D} (k : Nat), rGs n ds = true → n < k → snapL (snap S k) ds = some (pyDs ds)
  | _, [], _, _, _ => rfl
  | n, d :: ds, k, h, hk => by
    have h' : rG n d = true ∧ rGs n ds = true := by simpa [rGs] using h
    show (match snap S k d, snapL (snap S k) ds with
      | some a, some as => some (a :: as)
      | _, _ => none) = _
    rw [snap_rG S k h'.1 hk, snapL_rG S k h'.2 hk]
    rfl
end
theorem log_10 {a : Int} (h0 : 0 ≤ a) (h1 : a < 10 ^ 10) : a.natAbs.log2 < 1920 := by
  have h : a.natAbs < 2 ^ 1920 := Nat.lt_of_lt_of_le (show a.natAbs < 2 ^ 34 by omega) (Nat.pow_le_pow_right (by decide) (by decide))
  by_cases hz : a.natAbs = 0
  · rw [hz]; decide
  · exact (Nat.log2_lt hz).mpr h
theorem tup_len (ts : List Str) : (tupleText ts).length ≤ piled ts + 3 := by
  unfold tupleText
  rw [strLen_append, strLen_append]
  have k1 : (Str.ofString "(").length = 1 := rfl
  have k2 : (Str.ofString (if (ts.length == 1) = true then ",)" else ")")).length ≤ 2 := by
    split
    · exact Nat.le_refl 2
    · exact Nat.le_succ 1
  by_cases h : ts = []
  · subst h
    have k3 : (Str.join ", " []).length = 0 := rfl
    rw [k3]
    omega
  · have := join_length_add ts h
    omega
mutual
theorem shown_rG : ∀ {n : Nat} {d : D}, rG n d = true → (pyD d).shown.length ≤ rWd d ∧ (pyD d).showable = true ∧ (pyD d).hasDict = false ∧ (pyD d).depth ≤ n
  | _, .non, _ => ⟨Nat.le_refl 4, rfl, rfl, Nat.zero_le _⟩
  | _, .bl true, _ => ⟨Nat.le_succ 4, rfl, rfl, Nat.zero_le _⟩
  | _, .bl false, _ => ⟨Nat.le_refl 5, rfl, rfl, Nat.zero_le _⟩
  | _, .int i, h => by
    have h' : 0 ≤ i ∧ i < 10 ^ 10 := by simpa [rG] using h
    refine ⟨?_, ?_, rfl, Nat.zero_le _⟩
    · have := toString_length_le h'.1 (k := 10) (by decide) h'.2
      show (Str.ofString (toString i)).length ≤ 11
      omega
    · show decide (i.natAbs.log2 < 1920) = true
      exact decide_eq_true (log_10 h'.1 h'.2)
  | _, .str x, h => by
    have h' : strG x = true := by simpa [rG] using h
    refine ⟨?_, rfl, rfl, Nat.zero_le _⟩
    show (reprText x).length ≤ 10 * x.length + 2
    exact StrLaws.reprText_len x fun c hc => of_decide_eq_true (List.all_eq_true.mp h' c hc)
  | n + 1, .tup ds, h => by
    have h' : rGs n ds = true := by simpa [rG] using h
    obtain ⟨h1, h2, h3, h4⟩ := shownAll_rG h'
    refine ⟨?_, h2, h3, Nat.succ_le_succ h4⟩
    show (tupleText (PyData.shownAll (pyDs ds))).length ≤ rWs ds + 3
    have := tup_len (PyData.shownAll (pyDs ds))
    omega
  | 0, .tup ds, h => by simp [rG] at h
  | _, .ktp _, h => by simp [rG] at h
  | _, .ttp _, h => by simp [rG] at h
  | _, .rls _, h => by simp [rG] at h
  | _, .loc _, h => by simp [rG] at h
  | _, .adr _, h => by simp [rG] at h
  | _, .ty _, h => by simp [rG] at h
  | _, .exn _ _ _, h => by simp [rG] at h
theorem shownAll_rG : ∀ {n : Nat} {ds : List D}, rGs n ds = true → piled (PyData.shownAll (pyDs ds)) ≤ rWs ds ∧ PyData.showableAll (pyDs ds) = true ∧ PyData.hasDictAll (pyDs ds) = false ∧ PyData.depthAll (pyDs ds) ≤ n
  | _, [], _ => ⟨Nat.le_refl 0, rfl, rfl, Nat.zero_le _⟩
  | n, d :: ds, h => by
    have h' : rG n d = true ∧ rGs n ds = true := by simpa [rGs] using h
    obtain ⟨a1, a2, a3, a4⟩ := shown_rG h'.1
    obtain ⟨b1, b2, b3, b4⟩ := shownAll_rG h'.2
    refine ⟨?_, ?_, ?_, ?_⟩
    · have : piled (PyData.shownAll (pyDs (d :: ds))) = (pyD d).shown.length + 2 + piled (PyData.shownAll (pyDs ds)) := by
        simp only [pyDs, PyData.shownAll, piled, List.map_cons, List.sum_cons]
      rw [this]
      show _ ≤ rWd d + 2 + rWs ds
      omega
    · show (PyData.showable (pyD d) && PyData.showableAll (pyDs ds)) = true
      rw [a2, b2]
      rfl
    · show (PyData.hasDict (pyD d) || PyData.hasDictAll (pyDs ds)) = false
      rw [a3, b3]
      rfl
    · show max (PyData.depth (pyD d)) (PyData.depthAll (pyDs ds)) ≤ n
      exact Nat.max_le.mpr ⟨a4, b4⟩
end
theorem repr_ok {d : D} (h : rG 30 d = true) (hw : rWd d ≤ 16000000) (S : Sto) : reprD [d] S = .ok (.str (pyD d).shown) S := by
  unfold reprD
  obtain ⟨h1, h2, h3, h4⟩ := shown_rG h
  have s2 : shows (pyD d) = true := by
    unfold shows
    rw [h2, h3, decide_eq_true (show (pyD d).depth ≤ 60 by omega), decide_eq_true (show (pyD d).shown.length ≤ sizeLine by rw [sizeLine_eq]; omega)]
    rfl
  simp only [snap_rG S 40 h (by decide), s2, if_true]
theorem rGs_iff {n : Nat} : ∀ {ds : List D}, rGs n ds = true ↔ ∀ d ∈ ds, rG n d = true
  | [] => by simp [rGs]
  | d :: ds => by simp only [rGs, Bool.and_eq_true, rGs_iff (ds := ds), List.mem_cons, forall_eq_or_imp]
theorem rWs_le {B : Nat} : ∀ {ds : List D}, (∀ d ∈ ds, rWd d ≤ B) → rWs ds ≤ (B + 2) * ds.length
  | [], _ => Nat.zero_le _
  | d :: ds, h => by
    have h1 := h d (by simp)
    have h2 := rWs_le (B := B) (ds := ds) fun e he => h e (List.mem_cons_of_mem _ he)
    show rWd d + 2 + rWs ds ≤ (B + 2) * (ds.length + 1)
    rw [Nat.mul_add]
    omega
theorem ne_self (x : Str) (S : Sto) : eqB true (.str x) (.str x) S = .ok (.bl false) S := by
  rw [eq_ss]
  simp
theorem eq_self_s (x : Str) (S : Sto) : eqB false (.str x) (.str x) S = .ok (.bl true) S := by
  rw [eq_ss]
  simp
end Fa
namespace Fa
open PySem PySem.Spec PyProof.Rows L2
section
variable {K : PySem.W.Frag} {X : Cx}
/-! ### l.pop(i) -/
def popOk (i : Int) : Bool := decide (-(2 ^ 63) ≤ i) && decide (i < 2 ^ 63)
def popD : D → List D → M D := fun x ds S => match lstAt S x, ds with
  | some (n, xs), [.int i] => if popOk i = true then match ixN xs.length i with
    | some j => match xs[j]? with
      | some y => .ok y (S.set n (.lst (xs.eraseIdx j)))
      | none => .bad
    | none => .bad
    else .bad
  | _, _ => .bad
theorem reps_erase {mu : List Addr} {H : Hp} : ∀ {vs : List V} {ds : List D} (j : Nat), Reps K mu H vs ds → Reps K mu H (vs.eraseIdx j) (ds.eraseIdx j)
  | _, _, _, .nil => .nil
  | _, _, 0, .cons _ t => t
  | _, _, j + 1, .cons r t => .cons r (reps_erase j t)
theorem reps_at {mu : List Addr} {H : Hp} : ∀ {vs : List V} {ds : List D} {j : Nat} {d : D}, Reps K mu H vs ds → ds[j]? = some d → ∃ v, vs[j]? = some v ∧ Rep K mu H v d
  | _, _, 0, _, .cons r _, h => by
    simp at h
    subst h
    exact ⟨_, rfl, r⟩
  | _, _, j + 1, _, .cons _ t, h => reps_at (j := j) t (by simpa using h)
theorem o_pop : OpM K rPopAt popD := by
  intro W σ mu H S x xs v vs Q hS rv rs hp
  unfold popD at hp
  cases e : lstAt S x with
  | none => rw [e] at hp; exact hp.elim
  | some q =>
    obtain ⟨n, ds⟩ := q
    rw [e] at hp
    match xs, hp, rs with
    | [], hp, _ => exact hp.elim
    | [.int i], hp, rs =>
      obtain ⟨w, rfl, rw'⟩ := one_of rs
      cases rw'
      obtain ⟨a, us, rfl, rfl, hn, hs, h1, h2⟩ := lstAt_of hS rv e
      simp only at hp
      by_cases h : popOk i = true
      · rw [if_pos h] at hp
        cases e2 : ixN ds.length i with
        | none => rw [e2] at hp; exact hp.elim
        | some j =>
          rw [e2] at hp
          cases e3 : ds[j]? with
          | none => simp only [e3] at hp; exact hp.elim
          | some y =>
            simp only [e3] at hp
            obtain ⟨u, e4, ru⟩ := reps_at h2 e3
            have hh : -(2 ^ 63) ≤ i ∧ i < 2 ^ 63 := by simpa [popOk] using h
            have hl : us.length = ds.length := h2.length
            have ex : Ext mu H mu (upd H a (.lst (us.eraseIdx j))) := ext_put hn h1 trivial
            refine ⟨a, us, i, j, u, rfl, rfl, h1, hh.1, hh.2, by rw [hl]; exact (ixN_seq e2).1, e4, ?_⟩
            exact hp mu _ ex (hS.put (u' := .lst us) hn ex ⟨_, upd_same, (reps_erase j h2).mono ex⟩) _ (ru.mono ex)
      · rw [if_neg h] at hp
        exact hp.elim
    | [.non], hp, _ | [.bl _], hp, _ | [.str _], hp, _ | [.tup _], hp, _ | [.ktp _], hp, _ | [.ttp _], hp, _ | [.rls _], hp, _ | [.loc _], hp, _ | [.adr _], hp, _ | [.ty _], hp, _ | [.exn _ _ _], hp, _ => exact hp.elim
    | a :: b :: c, hp, _ => exact (show False by cases a <;> exact hp).elim
theorem pop_l {S : Sto} {n j : Nat} {ds : List D} {i : Int} {y : D} (h : S[n]? = some (.lst ds)) (hi : popOk i = true) (hj : ixN ds.length i = some j) (hy : ds[j]? = some y) : popD (.loc n) [.int i] S = .ok y (S.set n (.lst (ds.eraseIdx j))) := by
  unfold popD
  rw [lstAt_l h]
  simp only [hi, hj, hy, if_true]
end
end Fa
namespace Fa
open PySem PySem.Spec PyProof.Rows L2
section
variable {K : PySem.W.Frag} {X : Cx}
/-! ### dict(pairs), dict(d) -/
def pairOf : D → Option (Key × D)
  | .tup [k, v] => (keyOf k).map fun key => (key, v)
  | .ttp [k, v] => (keyOf k).map fun key => (key, v)
  | _ => none
def pairsOf : List D → Option (List (Key × D))
  | [] => some []
  | d :: ds => match pairOf d, pairsOf ds with
    | some p, some ps => some (p :: ps)
    | _, _ => none
def dictD : List D → M D := fun xs S => match xs with
  | [.loc n] => match S[n]? with
    | some (.lst ds) => match pairsOf ds with
      | some kvs => .ok (.loc S.length) (S ++ [.dct (mergeD [] kvs)])
      | none => .bad
    | some (.dct kvs) => .ok (.loc S.length) (S ++ [.dct kvs])
    | _ => .bad
  | _ => .bad
def rDict (K : PySem.W.Frag) : List V → Hp → VK → Prop := fun xs H Q => (∃ (a : Addr) (ps : List Addr) (kvs : List (Key × V)), xs = [.ref a] ∧ SqL K H a (ps.map V.ref) ∧ Paired (fun p kv => SqT K H p [kV kv.1, kv.2]) ps kvs ∧ ∀ p, H p = none → Q (.ref p) (upd H p (.dK (mergeK [] kvs)))) ∨
  ∃ (a : Addr) (kvs : List (Key × V)), xs = [.ref a] ∧ Rd H a (.dK kvs) ∧ ∀ p, H p = none → Q (.ref p) (upd H p (.dK kvs))
theorem call_dict (hc : X.calm = true) : CallR X (.type "dict") (rDict X.K) := (call_dictP hc).or call_dictD
theorem pairOf_of {mu : List Addr} {H : Hp} {d : D} {v : V} {k : Key} {x : D} (r : Rep K mu H v d) (h : pairOf d = some (k, x)) : ∃ p w, v = .ref p ∧ SqT K H p [kV k, w] ∧ Rep K mu H w x := by
  cases r with
  | tup hd h1 h2 =>
    rename_i a vs ds o
    match ds, h2, h with
    | [k', x'], .cons r1 (.cons r2 .nil), h =>
      simp only [pairOf] at h
      cases e : keyOf k' with
      | none => rw [e] at h; cases h
      | some key =>
        rw [e] at h
        cases h
        rw [keyOf_of r1 e] at h1
        exact ⟨a, _, rfl, sqT_t h1, r2⟩
    | [], _, h => cases h
    | [_], _, h => cases h
    | _ :: _ :: _ :: _, _, h => cases h
  | ttp h1 h2 =>
    rename_i a vs ds
    match ds, h2, h with
    | [k', x'], .cons r1 (.cons r2 .nil), h =>
      simp only [pairOf] at h
      cases e : keyOf k' with
      | none => rw [e] at h; cases h
      | some key =>
        rw [e] at h
        cases h
        rw [keyOf_of r1 e] at h1
        exact ⟨a, _, rfl, .inl (.inl h1), r2⟩
    | [], _, h => cases h
    | [_], _, h => cases h
    | _ :: _ :: _ :: _, _, h => cases h
  | _ => cases h
theorem pairsOf_of {mu : List Addr} {H : Hp} : ∀ {ds : List D} {vs : List V} {kvs : List (Key × D)}, Reps K mu H vs ds → pairsOf ds = some kvs → ∃ (ps : List Addr) (ws : List (Key × V)), vs = ps.map V.ref ∧ Paired (fun p kv => SqT K H p [kV kv.1, kv.2]) ps ws ∧ KReps K mu H ws kvs
  | [], _, _, .nil, h => by
    cases h
    exact ⟨[], [], rfl, .nil, .nil⟩
  | d :: ds, _, kvs, .cons r t, h => by
    unfold pairsOf at h
    cases e1 : pairOf d with
    | none => simp only [e1] at h; cases h
    | some p =>
      cases e2 : pairsOf ds with
      | none => simp only [e1, e2] at h; cases h
      | some ps =>
        simp only [e1, e2] at h
        cases h
        obtain ⟨k, x⟩ := p
        obtain ⟨a, w, rfl, q1, q2⟩ := pairOf_of r e1
        obtain ⟨as, ws, rfl, q3, q4⟩ := pairsOf_of t e2
        exact ⟨a :: as, (k, w) :: ws, rfl, .cons q1 q3, .cons ⟨rfl, q2⟩ q4⟩
theorem o_dict : OpN K (rDict K) dictD := by
  intro W σ mu H S xs vs Q hS rs hp
  unfold dictD at hp
  split at hp
  · rename_i n
    obtain ⟨v, rfl, rv⟩ := one_of rs
    cases rv with
    | loc hn =>
      rename_i a
      obtain ⟨o, ho, hm⟩ := hS.obj hn
      simp only [ho] at hp
      have fin : ∀ {kvs : List (Key × D)} {ws : List (Key × V)}, KReps K mu H ws kvs → Post K W σ mu H (fun d x mu' H' => ∀ (u : V), Rep K mu' H' u d → Q u H') (Res.ok (D.loc S.length) (S ++ [.dct kvs])) → ∀ p, H p = none → Q (.ref p) (upd H p (.dK ws)) := fun {kvs ws} kr hp p hpn => by
        have ex := ext_new (mu := mu) (u := .dK ws) hpn
        refine hp (mu ++ [p]) _ ex (hS.new hpn ⟨_, upd_same, kr.mono ex⟩) _ (.loc ?_)
        rw [hS.len]
        simp
      cases o with
      | lst ds =>
        obtain ⟨us, h1, h2⟩ := hm
        cases e : pairsOf ds with
        | none => simp only [e] at hp; exact hp.elim
        | some kvs =>
          simp only [e] at hp
          obtain ⟨ps, ws, rfl, q3, q4⟩ := pairsOf_of h2 e
          exact .inl ⟨a, ps, ws, rfl, .inl (.inl h1), q3, fin (kreps_merge q4 .nil) hp⟩
      | dct kvs =>
        obtain ⟨us, h1, h2⟩ := hm
        exact .inr ⟨a, us, rfl, .inl h1, fin h2 hp⟩
      | dcT _ => exact hp.elim
      | tab _ _ => exact hp.elim
      | ins _ _ => exact hp.elim
  · exact hp.elim
/-! ### max(xs), min(xs) -/
def bestI (lt : Int → Int → Bool) : List Int → Option Int
  | [] => none
  | x :: xs => some (xs.foldl (fun m y => if lt m y then y else m) x)
def bestD (isMax : Bool) : List D → M D := fun xs S => match xs with
  | [.loc n] => match S[n]? with
    | some (.lst ds) => match toI ds with
      | some (x :: ns) => .ok (.int (ns.foldl (fun m y => if isMax then (if m < y then y else m) else (if y < m then y else m)) x)) S
      | _ => .bad
    | _ => .bad
  | _ => .bad
theorem fold_best (b : Bool) : ∀ (ns : List Int) (x : Int), (ns.foldl (fun m y => if b then (if m < y then y else m) else (if y < m then y else m)) x) ∈ x :: ns ∧ ∀ y ∈ x :: ns, (if b then y ≤ ns.foldl (fun m y => if b then (if m < y then y else m) else (if y < m then y else m)) x else ns.foldl (fun m y => if b then (if m < y then y else m) else (if y < m then y else m)) x ≤ y)
  | [], x => ⟨by simp, fun y hy => by simp at hy; subst hy; cases b <;> simp⟩
  | z :: ns, x => by
    rw [List.foldl_cons]
    obtain ⟨x', hx'⟩ : ∃ x', x' = (if b then (if x < z then z else x) else (if z < x then z else x)) := ⟨_, rfl⟩
    rw [← hx']
    obtain ⟨h1, h2⟩ := fold_best b ns x'
    have hm : x' = x ∨ x' = z := by
      rw [hx']
      split
      · split
        · exact .inr rfl
        · exact .inl rfl
      · split
        · exact .inr rfl
        · exact .inl rfl
    refine ⟨?_, fun y hy => ?_⟩
    · rcases List.mem_cons.mp h1 with e | e
      · rw [e]
        rcases hm with e | e <;> rw [e] <;> simp
      · exact List.mem_cons_of_mem _ (List.mem_cons_of_mem _ e)
    · have hx := h2 x' (by simp)
      cases b with
      | true =>
        simp only [if_true] at hx h2 hx' ⊢
        rcases List.mem_cons.mp hy with e | hy
        · subst e; have : y ≤ x' := by rw [hx']; split <;> omega
          omega
        · rcases List.mem_cons.mp hy with e | hy
          · subst e; have : y ≤ x' := by rw [hx']; split <;> omega
            omega
          · exact h2 y (List.mem_cons_of_mem _ hy)
      | false =>
        simp only [Bool.false_eq_true, if_false] at hx h2 hx' ⊢
        rcases List.mem_cons.mp hy with e | hy
        · subst e; have : x' ≤ y := by rw [hx']; split <;> omega
          omega
        · rcases List.mem_cons.mp hy with e | hy
          · subst e; have : x' ≤ y := by rw [hx']; split <;> omega
            omega
          · exact h2 y (List.mem_cons_of_mem _ hy)
theorem o_maxL : OpN K (rMax K) (bestD true) := by
  intro W σ mu H S xs vs Q hS rs hp
  unfold bestD at hp
  split at hp
  · obtain ⟨v, rfl, rv⟩ := one_of rs
    cases rv with
    | loc hn =>
      obtain ⟨o, ho, hm⟩ := hS.obj hn
      simp only [ho] at hp
      cases o with
      | lst ds =>
        obtain ⟨us, h1, h2⟩ := hm
        simp only at hp
        split at hp
        · rename_i x ns e
          rw [toI_reps e h2] at h1
          refine ⟨_, x :: ns, rfl, .inl (.inl h1), by simp, fun m hm hall => ?_⟩
          obtain ⟨f1, f2⟩ := fold_best true ns x
          have e1 : m = ns.foldl (fun m y => if true then (if m < y then y else m) else (if y < m then y else m)) x := by
            have a := hall _ f1
            have b := f2 m hm
            simp only [if_true] at b a ⊢
            omega
          rw [e1]
          exact hp mu H Ext.refl hS _ (.int _)
        · exact hp.elim
      | dct _ => exact hp.elim
      | dcT _ => exact hp.elim
      | tab _ _ => exact hp.elim
      | ins _ _ => exact hp.elim
  · exact hp.elim
theorem o_minL : OpN K (rMin K) (bestD false) := by
  intro W σ mu H S xs vs Q hS rs hp
  unfold bestD at hp
  split at hp
  · obtain ⟨v, rfl, rv⟩ := one_of rs
    cases rv with
    | loc hn =>
      obtain ⟨o, ho, hm⟩ := hS.obj hn
      simp only [ho] at hp
      cases o with
      | lst ds =>
        obtain ⟨us, h1, h2⟩ := hm
        simp only at hp
        split at hp
        · rename_i x ns e
          rw [toI_reps e h2] at h1
          refine ⟨_, x :: ns, rfl, .inl (.inl h1), by simp, fun m hm hall => ?_⟩
          obtain ⟨f1, f2⟩ := fold_best false ns x
          have e1 : m = ns.foldl (fun m y => if false then (if m < y then y else m) else (if y < m then y else m)) x := by
            have a := hall _ f1
            have b := f2 m hm
            simp only [Bool.false_eq_true, if_false] at b a ⊢
            omega
          rw [e1]
          exact hp mu H Ext.refl hS _ (.int _)
        · exact hp.elim
      | dct _ => exact hp.elim
      | dcT _ => exact hp.elim
      | tab _ _ => exact hp.elim
      | ins _ _ => exact hp.elim
  · exact hp.elim
end
end Fa
namespace Fa
open PySem PySem.Spec PyProof.Rows L2
/-! ### dict(zip(xs, t)): a list and a tuple -/
section
variable {prog : Program} {w : World} {A : Around} {E : Value → Shared → Prop} {s : Shared} {u ti tn j1 j2 : Addr} {fa fb : List Addr} {na nb i : Nat} {PA PB : Nat → Value → Prop} {SA' SB' : Nat → Heap → Prop}
theorem zh_item {T : Addr} {f : Bool} {oT : Obj} {Q : Value → Shared → Prop} (S : ZipSep2 u ti tn j1 j2 fa fb) (Da : Draws prog w A j1 fa na PA SA') (Db : Draws prog w A j2 fb nb PB SB')
    (zh : IsZipHeld s.heap u ti tn T f) (hT : s.heap.get? T = some oT) (ih : IsTupOf2 s.heap ti (.ref j1) (.ref j2)) (sa : SA' i s.heap) (sb : SB' i s.heap) (la : i < na) (lb : i < nb)
    (hQ : ∀ x y h' tk, PA i x → PB i y → IsZipHeld h' u ti tn T true → SA' (i + 1) h' → SB' (i + 1) h' → IsTupOf2 h' s.heap.objs.size x y →
      (∀ c o, c ≠ u → c ≠ j1 → c ≠ j2 → s.heap.get? c = some o → h'.get? c = some o) → Q (.ref s.heap.objs.size) { s with heap := h', toks := tk }) :
    wpAny (model prog w) A (Builtin.«zip.__next__» ⟨[.ref u], []⟩) (fun fin s' => ∃ v, fin = .done (.ret v) ∧ Q v s') E s := by
  obtain ⟨hp, g, d, tk0, os⟩ := s
  show wpAny _ _ (field (.ref u) 2 >>= _) _ _ _
  refine wpAny_bind (wpAny_field zh rfl (x := .bool false) rfl ?_)
  show wpAny _ _ (field (.ref u) 3 >>= _) _ _ _
  refine wpAny_bind (wpAny_field zh rfl (x := .ref ti) rfl ?_)
  refine wpAny_bind (wpAny_seqItems ih rfl ?_)
  show wpAny _ _ (Builtin.SmallTypes.ownedTupleIsFree (.ref u) >>= _) _ _ _
  refine wpAny_bind (wpAny_tupleHeld_zip zh hT fun g0 zh0 e0 => ?_)
  replace e0 : Heap.SameBut u hp g0 := e0
  simp only [Bool.false_eq_true, if_false]
  refine wpAny_bind ?_
  rw [← Array.forIn_toList]; simp only [List.forIn_cons, List.forIn_nil]
  refine wpAny_bind (wpAny_bind (wpAny_holding ?_))
  show wpAny _ _ (Builtin.SmallTypes.nextOf (.ref j1) >>= _) _ _ ⟨g0, g, d, tk0, os⟩
  refine wpAny_bind (Da.item i _ _ _ la (Da.over sa e0 S.zf1) fun x ga ta hx na1 ea => wpAny_pure ?_)
  replace ea : Heap.SameBut j1 g0 ga := ea
  refine wpAny_pure ?_
  refine wpAny_bind (wpAny_bind (wpAny_holding ?_))
  show wpAny _ _ (Builtin.SmallTypes.nextOf (.ref j2) >>= _) _ _ ⟨ga, g, d, ta, os⟩
  refine wpAny_bind (Db.item i _ _ _ lb (Db.over (Db.over sb e0 S.zf2) ea S.sep1_2) fun y gb tb hy nb1 eb => wpAny_pure ?_)
  replace eb : Heap.SameBut j2 ga gb := eb
  refine wpAny_pure (wpAny_pure ?_)
  show wpAny _ _ (newTuple [x, y] >>= _) _ _ ⟨gb, g, d, tb, os⟩
  refine wpAny_bind (wpAny_newTuple ?_)
  have hsz : gb.objs.size = hp.objs.size := by rw [eb.1, ea.1, e0.1]
  have zg : IsZipHeld gb u ti tn T true := eb.extBut _ _ S.zi2 (ea.extBut _ _ S.zi1 zh0)
  have hk : ∀ c o, c ≠ u → c ≠ j1 → c ≠ j2 → hp.get? c = some o → gb.get? c = some o := fun c o c1 c2 c3 e => eb.extBut _ _ c3 (ea.extBut _ _ c2 (e0.extBut _ _ c1 e))
  refine wpAny_pure ⟨_, rfl, ?_⟩
  show Q (.ref gb.objs.size) _
  have tp : IsTupOf2 (gb.push { cls := .type "tuple", data := .seq #[x, y] }) gb.objs.size x y := Heap.get?_push_size _ rfl
  rw [hsz] at tp ⊢
  have up : ∀ c o, gb.get? c = some o → (gb.push { cls := .type "tuple", data := .seq #[x, y] }).get? c = some o := fun c o e => Heap.get?_push_of_some _ e
  exact hQ x y _ tb hx hy (up _ _ zg) (Da.frame _ _ _ (Da.over na1 eb S.sep2_1) fun b _ o e => up b o e) (Db.frame _ _ _ nb1 fun b _ o e => up b o e) tp fun c o c1 c2 c3 e => up c o (hk c o c1 c2 c3 e)
theorem zh_end {T : Addr} {f : Bool} {oT : Obj} {Q : Fin → Shared → Prop} (S : ZipSep2 u ti tn j1 j2 fa fb) (Da : Draws prog w A j1 fa na PA SA') (Db : Draws prog w A j2 fb nb PB SB')
    (zh : IsZipHeld s.heap u ti tn T f) (hT : s.heap.get? T = some oT) (ih : IsTupOf2 s.heap ti (.ref j1) (.ref j2)) (sa : SA' i s.heap) (sb : SB' i s.heap) (la : i ≤ na) (lb : i ≤ nb) (hend : i = na ∨ i = nb)
    (hE : ∀ h' tk e, (∀ c o, c ≠ u → c ≠ j1 → c ≠ j2 → s.heap.get? c = some o → h'.get? c = some o) → (∃ o, h'.get? e = some o ∧ o.cls = .type "StopIteration") → E (.ref e) { s with heap := h', toks := tk }) :
    wpAny (model prog w) A (Builtin.«zip.__next__» ⟨[.ref u], []⟩) Q E s := by
  obtain ⟨hp, g, d, tk0, os⟩ := s
  show wpAny _ _ (field (.ref u) 2 >>= _) _ _ _
  refine wpAny_bind (wpAny_field zh rfl (x := .bool false) rfl ?_)
  show wpAny _ _ (field (.ref u) 3 >>= _) _ _ _
  refine wpAny_bind (wpAny_field zh rfl (x := .ref ti) rfl ?_)
  refine wpAny_bind (wpAny_seqItems ih rfl ?_)
  show wpAny _ _ (Builtin.SmallTypes.ownedTupleIsFree (.ref u) >>= _) _ _ _
  refine wpAny_bind (wpAny_tupleHeld_zip zh hT fun g0 zh0 e0 => ?_)
  replace e0 : Heap.SameBut u hp g0 := e0
  simp only [Bool.false_eq_true, if_false]
  refine wpAny_bind ?_
  rw [← Array.forIn_toList]; simp only [List.forIn_cons, List.forIn_nil]
  refine wpAny_bind (wpAny_bind (wpAny_holding ?_))
  show wpAny _ _ (Builtin.SmallTypes.nextOf (.ref j1) >>= _) _ _ ⟨g0, g, d, tk0, os⟩
  by_cases lt : i < na
  · refine wpAny_bind (Da.item i _ _ _ lt (Da.over sa e0 S.zf1) fun x ga ta hx na1 ea => wpAny_pure ?_)
    replace ea : Heap.SameBut j1 g0 ga := ea
    refine wpAny_pure ?_
    refine wpAny_bind (wpAny_bind (wpAny_holding ?_))
    show wpAny _ _ (Builtin.SmallTypes.nextOf (.ref j2) >>= _) _ _ ⟨ga, g, d, ta, os⟩
    have eb : i = nb := by omega
    refine wpAny_bind (Db.done ⟨ga, g, d, ta, os⟩ _ _ (by rw [← eb]; exact Db.over (Db.over sb e0 S.zf2) ea S.sep1_2) fun q e hq he => ?_)
    replace hq : Heap.ExtBut j2 ga q := hq
    exact hE q ta e (fun c o c1 c2 c3 x => hq _ _ c3 (ea.extBut _ _ c2 (e0.extBut _ _ c1 x))) he
  · have eb : i = na := by omega
    refine wpAny_bind (Da.done ⟨g0, g, d, tk0, os⟩ _ _ (by rw [← eb]; exact Da.over sa e0 S.zf1) fun q e hq he => ?_)
    replace hq : Heap.ExtBut j1 g0 q := hq
    exact hE q tk0 e (fun c o c1 c2 c3 x => hq _ _ c2 (e0.extBut _ _ c1 x)) he
theorem nx_item {T : Addr} {f : Bool} {oT : Obj} {Q : Option Value → Shared → Prop} (S : ZipSep2 u ti tn j1 j2 fa fb) (Da : Draws prog w A.in1 j1 fa na PA SA') (Db : Draws prog w A.in1 j2 fb nb PB SB')
    (zh : IsZipHeld s.heap u ti tn T f) (hT : s.heap.get? T = some oT) (ih : IsTupOf2 s.heap ti (.ref j1) (.ref j2)) (sa : SA' i s.heap) (sb : SB' i s.heap) (la : i < na) (lb : i < nb)
    (hQ : ∀ x y h' tk, PA i x → PB i y → IsZipHeld h' u ti tn T true → SA' (i + 1) h' → SB' (i + 1) h' → IsTupOf2 h' s.heap.objs.size x y →
      (∀ c o, c ≠ u → c ≠ j1 → c ≠ j2 → s.heap.get? c = some o → h'.get? c = some o) → Q (some (.ref s.heap.objs.size)) { s with heap := h', toks := tk }) : wpAny (model prog w) A (pyNext (.ref u)) Q E s := by
  have ty : s.TypeIs (.ref u) "zip" := ⟨_, zh, rfl⟩
  unfold pyNext
  refine wpAny_bind (wpAny_attempt (wpAny_callSpecial?_slot (name := Str.ofString "__next__") ty F.slot_zip_next (wpAny_call_entry F.slot_zip_next ty F.entry_zip_next ?_ (F.args_zip_next_1 _))))
  exact zh_item S Da Db zh hT ih sa sb la lb fun x y h' tk b1 b2 b3 b4 b5 b6 b7 => wpAny_pure (hQ x y h' tk b1 b2 b3 b4 b5 b6 b7)
theorem nx_end {T : Addr} {f : Bool} {oT : Obj} {Q : Option Value → Shared → Prop} (S : ZipSep2 u ti tn j1 j2 fa fb) (Da : Draws prog w A.in1 j1 fa na PA SA') (Db : Draws prog w A.in1 j2 fb nb PB SB')
    (zh : IsZipHeld s.heap u ti tn T f) (hT : s.heap.get? T = some oT) (ih : IsTupOf2 s.heap ti (.ref j1) (.ref j2)) (sa : SA' i s.heap) (sb : SB' i s.heap) (la : i ≤ na) (lb : i ≤ nb) (hend : i = na ∨ i = nb)
    (hQ : ∀ h' tk, (∀ c o, c ≠ u → c ≠ j1 → c ≠ j2 → s.heap.get? c = some o → h'.get? c = some o) → Q none { s with heap := h', toks := tk }) : wpAny (model prog w) A (pyNext (.ref u)) Q E s := by
  have ty : s.TypeIs (.ref u) "zip" := ⟨_, zh, rfl⟩
  unfold pyNext
  refine wpAny_bind (wpAny_attempt (wpAny_callSpecial?_slot (name := Str.ofString "__next__") ty F.slot_zip_next (wpAny_call_entry F.slot_zip_next ty F.entry_zip_next ?_ (F.args_zip_next_1 _))))
  refine zh_end S Da Db zh hT ih sa sb la lb hend fun h' tk e hk he => ?_
  obtain ⟨oe, ho, hc⟩ := he
  refine wpAny_bind (wpAny_isInstance (T := "StopIteration") (b := true) ⟨oe, ho, hc⟩ isSubtype_stop ?_)
  exact wpAny_pure (hQ _ _ hk)
end
section
variable {prog : Program} {w : World}
theorem pa_zip {u ti tn j1 j2 : Addr} {fa fb : List Addr} {na nb : Nat} {PA PB : Nat → Value → Prop} {SA' SB' : Nat → Heap → Prop} (S : ZipSep2 u ti tn j1 j2 fa fb)
    (Da : ∀ A : Around, A.handled = none → Draws prog w A j1 fa na PA SA') (Db : ∀ A : Around, A.handled = none → Draws prog w A j2 fb nb PB SB')
    (ta : ∀ i h, SA' i h → ∀ b ∈ fa, ∃ o, h.get? b = some o) (tb : ∀ i h, SB' i h → ∀ b ∈ fb, ∃ o, h.get? b = some o) (A0 : Around) (h0 : A0.handled = none) :
    PairArg prog w "zip" u (u :: ti :: tn :: (fa ++ fb)) [u, tn, j1, j2] (min na nb) (fun i k v => PA i k ∧ PB i v)
      (fun h => IsZip h u ti tn .none ∧ IsTupOf2 h ti (.ref j1) (.ref j2) ∧ (∃ a b, IsTupOf2 h tn a b) ∧ SA' 0 h ∧ SB' 0 h) where
  type := fun s ok => ⟨_, ok.1, rfl⟩
  notDict := by decide
  keep := fun h h' ok hk => by
    obtain ⟨z0, t0, ⟨a, b, t1⟩, sa, sb⟩ := ok
    exact ⟨hk _ _ z0, hk _ _ t0, ⟨a, b, hk _ _ t1⟩, (Da A0 h0).frame _ _ _ sa fun b _ o e => hk b o e, (Db A0 h0).frame _ _ _ sb fun b _ o e => hk b o e⟩
  there := fun h ok b hb => by
    obtain ⟨z0, t0, ⟨a, c, t1⟩, sa, sb⟩ := ok
    simp only [List.mem_cons, List.mem_append] at hb
    rcases hb with rfl | rfl | rfl | hb | hb
    · exact ⟨_, z0⟩
    · exact ⟨_, t0⟩
    · exact ⟨_, t1⟩
    · exact ta 0 h sa b hb
    · exact tb 0 h sb b hb
  sub := fun b hb => by
    have m1 := S.mem1
    have m2 := S.mem2
    simp only [List.mem_cons, List.not_mem_nil, or_false] at hb
    rcases hb with rfl | rfl | rfl | rfl <;> simp [*]
  noKeys := fun A s Q E hA ok h => getAttrOr_miss_zip ok.1 rfl rfl rfl zip_no_keys (by decide +kernel) hA h
  iter := fun A s d Q E hA ok hd hdf h => by
    obtain ⟨z0, t0, ⟨a, b, t1⟩, sa, sb⟩ := ok
    simp only [List.mem_cons, List.mem_append, not_or] at hdf
    obtain ⟨du, dti, dtn, da, db⟩ := hdf
    have dj1 : d ≠ j1 := fun e => da (by rw [e]; exact S.mem1)
    have dj2 : d ≠ j2 := fun e => db (by rw [e]; exact S.mem2)
    have DA := Da A.in1 hA
    have DB := Db A.in1 hA
    refine wpAny_pyIter_zip z0 (h u [u, tn, j1, j2] (fun i h => IsTupOf2 h ti (.ref j1) (.ref j2) ∧ SA' i h ∧ SB' i h ∧
      ((IsZip h u ti tn .none ∧ ∃ a b, IsTupOf2 h tn a b) ∨ ∃ T f oT, IsZipHeld h u ti tn T f ∧ h.get? T = some oT ∧ T ≠ u ∧ T ≠ j1 ∧ T ≠ j2 ∧ T ≠ d)) s.heap s.toks ?_
      ⟨t0, sa, sb, .inl ⟨z0, a, b, t1⟩⟩ (fun _ _ e => e) fun b hb => .inl hb)
    exact {
      off := fun hm => by
        simp only [List.mem_cons, List.not_mem_nil, or_false] at hm
        rcases hm with e | e | e | e
        · exact du e
        · exact dtn e
        · exact dj1 e
        · exact dj2 e
      frame := fun i h₁ h₂ st hk => by
        obtain ⟨t0, sa, sb, hz⟩ := st
        refine ⟨hk _ _ (Ne.symm dti) t0, DA.frame _ _ _ sa fun b hb o e => hk b o (fun q => da (by rw [← q]; exact hb)) e, DB.frame _ _ _ sb fun b hb o e => hk b o (fun q => db (by rw [← q]; exact hb)) e, ?_⟩
        rcases hz with ⟨hz, a, b, t1⟩ | ⟨T, f, oT, hz, hT, r1, r2, r3, r4⟩
        · exact .inl ⟨hk _ _ (Ne.symm du) hz, a, b, hk _ _ (Ne.symm dtn) t1⟩
        · exact .inr ⟨T, f, oT, hk _ _ (Ne.symm du) hz, hk _ _ r4 hT, r1, r2, r3, r4⟩
      item := fun i s₁ Q₁ E₁ hi st hds hQ => by
        obtain ⟨t0, sa, sb, hz⟩ := st
        have la : i < na := Nat.lt_of_lt_of_le hi (Nat.min_le_left ..)
        have lb : i < nb := Nat.lt_of_lt_of_le hi (Nat.min_le_right ..)
        have big : ∀ {c o}, s₁.heap.get? c = some o → s₁.heap.objs.size ≠ c := fun e => Nat.ne_of_gt (Heap.lt_size e)
        obtain ⟨oa, ha⟩ := ta i _ sa j1 S.mem1
        obtain ⟨ob, hb⟩ := tb i _ sb j2 S.mem2
        rcases hz with ⟨hz, a, b, t1⟩ | ⟨T, f, oT, hz, hT, r1, r2, r3, r4⟩
        · refine wpAny_pyNext_zipD2_item S DA DB hz t0 t1 sa sb la lb fun x y h' tk px py b1 b2 d1 d2 b5 b6 hk => ?_
          refine hQ s₁.heap.objs.size x y h' tk ⟨px, py⟩ (.inl ⟨_, b5, rfl, _, rfl⟩) ⟨hk _ _ S.TIz S.TITO S.TIi1 S.TIi2 t0, d1, d2, .inr ⟨s₁.heap.objs.size, false, _, b1, b5, big hz, big ha, big hb, Nat.ne_of_gt hds⟩⟩ ?_
          exact fun c o hc e => hk c o (fun x => hc (by simp [x])) (fun x => hc (by simp [x])) (fun x => hc (by simp [x])) (fun x => hc (by simp [x])) e
        · refine nx_item S DA DB hz hT t0 sa sb la lb fun x y h' tk px py b1 d1 d2 b5 hk => ?_
          refine hQ s₁.heap.objs.size x y h' tk ⟨px, py⟩ (.inl ⟨_, b5, rfl, _, rfl⟩) ⟨hk _ _ S.TIz S.TIi1 S.TIi2 t0, d1, d2, .inr ⟨T, true, oT, b1, hk _ _ r1 r2 r3 hT, r1, r2, r3, r4⟩⟩ ?_
          exact fun c o hc e => hk c o (fun x => hc (by simp [x])) (fun x => hc (by simp [x])) (fun x => hc (by simp [x])) e
      done := fun s₁ Q₁ E₁ st hQ => by
        obtain ⟨t0, sa, sb, hz⟩ := st
        have hend : min na nb = na ∨ min na nb = nb := by omega
        rcases hz with ⟨hz, a, b, t1⟩ | ⟨T, f, oT, hz, hT, r1, r2, r3, r4⟩
        · refine wpAny_pyNext_zipD2_end S DA DB hz t0 t1 sa sb (Nat.min_le_left ..) (Nat.min_le_right ..) hend fun h' tk hk => hQ h' tk ?_
          exact fun c o hc e => hk c o (fun x => hc (by simp [x])) (fun x => hc (by simp [x])) (fun x => hc (by simp [x])) (fun x => hc (by simp [x])) e
        · refine nx_end S DA DB hz hT t0 sa sb (Nat.min_le_left ..) (Nat.min_le_right ..) hend fun h' tk hk => hQ h' tk ?_
          exact fun c o hc e => hk c o (fun x => hc (by simp [x])) (fun x => hc (by simp [x])) (fun x => hc (by simp [x])) e }
end
end Fa
namespace Fa
open PySem PySem.Spec PyProof.Rows L2
theorem kv_zip : ∀ {ks : List Key} {ys : List V} {ws : List Value}, Vals ys ws → KV (ks.zip ys) (ks.zip ws)
  | [], _, _, _ => .nil
  | _ :: _, _, _, .nil => .nil
  | k :: ks, _, _, .cons r t => .cons ⟨rfl, r⟩ (kv_zip t)
theorem vals_at : ∀ {xs : List V} {us : List Value} {i : Nat} {u : Value}, Vals xs us → us[i]? = some u → ∃ x, xs[i]? = some x ∧ RelV x u
  | _, _, i, u, .nil, h => by simp at h
  | x :: xs, _, 0, u, .cons r t, h => by
    simp at h
    subst h
    exact ⟨x, rfl, r⟩
  | x :: xs, _, i + 1, u, .cons r t, h => by
    obtain ⟨y, h1, h2⟩ := vals_at t (by simpa using h)
    exact ⟨y, by simpa using h1, h2⟩
def tDictZip (K : PySem.W.Frag) (ta : TA) : TE := fun σ H Q => ta σ H fun vs H1 => ∃ (a b : Addr) (ks : List Key) (ys : List V), vs = [.ref a, .ref b] ∧ SqL K H1 a (ks.map kV) ∧ SqT K H1 b ys ∧ ∀ p, H1 p = none → Q (.ref p) (upd H1 p (.dK (mergeK [] (ks.zip ys))))
theorem pe_dictZip {X : Cx} {e e2 : Expr} {ta : TA} {p p2 q pos : Pos} (hg : Gl X "dict") (hm : X.mg "dict" = none) (hg2 : Gl X "zip") (hm2 : X.mg "zip" = none) (ha : PA X [e, e2] ta) (hc : X.calm = true := by rfl)
    (hs : starEach [e, e2] X.env = (false, eval e X.env) :: starEach [e2] X.env := by rfl) (hpl : (backTo q (starEach [e2] X.env)).any (·.1) = false := by rfl) :
    PE X (.Call (.Name "dict" p) [.Call (.Name "zip" p2) [e, e2] [] q] [] pos) (tDictZip X.K ta) := by
  refine ⟨fun pins s σ H Q I h => ?_⟩
  refine Call_ (ld_blt I hg hm PyProof.Rows.boot_dict ?_)
  refine PyProof.Rows.callWith_type1 (PyProof.Rows.args_cons ?_ rfl) rfl rfl
  refine Call_ (ld_blt I hg2 hm2 PyProof.Rows.boot_zip (PyProof.Rows.callWith_type1 (thn (ha.run q pins s σ H _ I h) fun us s1 ⟨vs, H1, I1, r1, q1⟩ => ?_) hs hpl))
  obtain ⟨a, b, ks, ys, ex, hq, ht, q1⟩ := q1
  subst ex
  cases r1 with
  | cons r rr =>
    cases rr with
    | cons r' rr =>
      cases rr
      cases r
      cases r'
      obtain ⟨its, rv, p1, z1⟩ := I1.list hq
      obtain ⟨its2, rv2, p2', z2⟩ := I1.tuple ht
      have la : a < s1.heap.objs.size := p1.lt
      have lb : b < s1.heap.objs.size := by
        obtain ⟨o, ho, _⟩ := id p2'
        exact Heap.lt_size ho
      refine zip_begins2 (begins_list a its.toArray) (begins_tuple b its2.toArray) p1.isList (show s1.heap.IsTuple b its2.toArray from p2') fun h' hz hTI hTO ho1 ho2 hsz hk => ?_
      refine PyProof.Rows.args_nil ?_
      have l1 := rv.length
      have l2 := rv2.length
      rw [List.length_map] at l1 z1
      refine PySem.call_dict_pairs (s := { s1 with heap := h' }) (knd := mixKind X.prog X.w) (kvs := ks.zip its2) (pa_zip (zip_sep2 (N := s1.heap.objs.size) (fp1 := [a]) (fp2 := [b]) (fun c hc => by simp at hc; rw [hc]; exact la) (fun c hc => by simp at hc; rw [hc]; exact lb))
        (fun A hA => Draws.list hA s1.heap.objs.size a (Nat.ne_of_lt la) its.toArray) (fun A hA => Draws.tuple hA (s1.heap.objs.size + 1) b (Nat.ne_of_lt (Nat.lt_succ_of_lt lb)) its2.toArray) ?_ ?_ X.A (I1.ok.hd hc)) (I1.ok.hd hc) ?_ ?_ ?_ fun h2 tk hd' k => ?_
      · rintro i h ⟨⟨o, h1, _⟩, ⟨o2, h2, _⟩⟩ c hc
        simp at hc
        rcases hc with rfl | rfl
        · exact ⟨_, h1⟩
        · exact ⟨_, h2⟩
      · rintro i h ⟨⟨o, h1, _⟩, ⟨o2, h2, _⟩⟩ c hc
        simp at hc
        rcases hc with rfl | rfl
        · exact ⟨_, h1⟩
        · exact ⟨_, h2⟩
      · exact ⟨hz, hTI, ⟨_, _, hTO⟩, ⟨⟨_, ho1, rfl, rfl⟩, p1.isList.at fun o e => hk _ o e⟩, ⟨⟨_, ho2, rfl, rfl⟩, (show s1.heap.IsTuple b its2.toArray from p2').at fun o e => hk _ o e⟩⟩
      · refine ⟨by simp [l1, l2], fun i key v hkv => ?_⟩
        obtain ⟨h1, h2⟩ := hkv
        rw [List.getElem?_toArray] at h1 h2
        obtain ⟨x, hx, rx⟩ := vals_at rv h1
        rw [List.getElem?_map] at hx
        cases hki : ks[i]? with
        | none => rw [hki] at hx; cases hx
        | some kk =>
          rw [hki] at hx
          cases hx
          exact ⟨kk, by rw [List.getElem?_zip_eq_some]; exact ⟨hki, h2⟩, kV_is rx⟩
      · simp only [List.size_toArray]
        omega
      · have hlen : (mergeK [] (ks.zip ys)).length ≤ sizeLine := by
          refine Nat.le_trans (length_mergeK (ks.zip ys) []) ?_
          rw [List.length_nil, Nat.zero_add, List.length_zip]
          omega
        have hge : s1.heap.objs.size ≤ h'.objs.size := by rw [hsz]; exact Nat.le_add_right _ _
        have hm0 : (h'.objs.size == sysModules) = false := beq_eq_false_iff_ne.mpr (Nat.ne_of_gt (Nat.lt_of_lt_of_le I1.big hge))
        have k2 : ∀ c o, s1.heap.get? c = some o → h2.get? c = some o := fun c o e => k c o (fun hm => by
          have hlt := Heap.lt_size e
          simp only [List.mem_cons, List.not_mem_nil, or_false] at hm
          rcases hm with z | z | z | z
          · rw [z] at hlt; exact absurd hlt (Nat.not_lt.mpr (Nat.le_add_right _ _))
          · rw [z] at hlt; exact absurd hlt (Nat.not_lt.mpr (Nat.le_add_right _ _))
          · rw [z] at hlt; exact absurd hlt (Nat.lt_irrefl _)
          · rw [z] at hlt; exact absurd hlt (Nat.not_lt.mpr (Nat.le_add_right _ _))) (hk c o e)
        exact ⟨.ref h'.objs.size, upd H1 h'.objs.size (.dK (mergeK [] (ks.zip ys))), I1.laid (t' := tk) k2 hge (show ObjOk X.prog X.w _ _ _ (.dK (mergeK [] (ks.zip ys))) from ⟨hlen, hm0, merged [] (ks.zip its2), KV.merge (kv_zip rv2) .nil, hd'⟩), rfl, q1 _ (I1.hok.fresh hge)⟩
section
variable {K : PySem.W.Frag} {X : Cx} {W : WX}
def dzD : List D → M D := fun xs S => match xs with
  | [.loc n, .tup ys] => match S[n]? with
    | some (.lst ds) => match keysOf ds with
      | some ks => .ok (.loc S.length) (S ++ [.dct (mergeD [] (ks.zip ys))])
      | none => .bad
    | _ => .bad
  | _ => .bad
theorem kreps_zip {mu : List Addr} {H : Hp} : ∀ {ks : List Key} {vs : List V} {ds : List D}, Reps K mu H vs ds → KReps K mu H (ks.zip vs) (ks.zip ds)
  | [], _, _, _ => .nil
  | _ :: _, _, _, .nil => .nil
  | k :: ks, _, _, .cons r t => .cons ⟨rfl, r⟩ (kreps_zip t)
theorem se_dictZip {e e2 : Expr} {ms : Env → M (List D)} {p p2 q pos : Pos} (hg : Gl X "dict") (hm : X.mg "dict" = none) (hg2 : Gl X "zip") (hm2 : X.mg "zip" = none) (ha : SA X W [e, e2] ms) (hc : X.calm = true := by rfl)
    (hs : starEach [e, e2] X.env = (false, eval e X.env) :: starEach [e2] X.env := by rfl) (hpl : (backTo q (starEach [e2] X.env)).any (·.1) = false := by rfl) :
    SE X W (.Call (.Name "dict" p) [.Call (.Name "zip" p2) [e, e2] [] q] [] pos) (mA dzD ms) := peI (pe_dictZip hg hm hg2 hm2 ha hc hs hpl) fun σ H Q q => by
  obtain ⟨r, mu, S, hS, he, hp⟩ := q
  refine ⟨r, mu, S, hS, he, hp.bnd.imp fun xs S1 mu1 H1 ex hS1 q1 vs rv => ?_⟩
  unfold dzD at q1
  split at q1
  · rename_i n ys
    cases rv with
    | cons r1 rv =>
      cases rv with
      | cons r2 rv =>
        cases rv
        cases r1 with
        | loc hn =>
          rename_i a
          cases r2 with
          | tup d2 h2 rs2 =>
            rename_i b vs2 ob
            obtain ⟨o, ho, hm'⟩ := hS1.obj hn
            simp only [ho] at q1
            cases o with
            | lst ds =>
              obtain ⟨us, h1, h3⟩ := hm'
              cases ek : keysOf ds with
              | none => simp only [ek] at q1; exact q1.elim
              | some ks =>
                simp only [ek] at q1
                have eu := keysOf_of h3 ek
                subst eu
                refine ⟨a, _, ks, _, rfl, .inl (.inl h1), sqT_t h2, fun p hpn => ?_⟩
                have ex2 := ext_new (mu := mu1) (u := .dK (mergeK [] (ks.zip vs2))) hpn
                refine q1 (mu1 ++ [p]) _ ex2 (hS1.new hpn ⟨_, upd_same, (kreps_merge (kreps_zip rs2) .nil).mono ex2⟩) _ (.loc ?_)
                rw [hS1.len]
                simp
            | _ => exact q1.elim
  · exact q1.elim
def dct0T : Env → M D := fun _ S => .ok (.loc S.length) (S ++ [.dcT []])
theorem se_dct0T {pos : Pos} : SE X W (.Dict [] [] pos) dct0T := peI pe_dnewT fun σ H Q q => by
  obtain ⟨r, mu, S, hS, he, hp⟩ := q
  intro p hn
  refine hp _ _ (ext_new hn) (hS.new hn ⟨[], upd_same, .nil⟩) _ (.loc ?_)
  rw [hS.len]
  simp
theorem dct0T_ap (r : Env) (S : Sto) : dct0T r S = .ok (.loc S.length) (S ++ [.dcT []]) := id rfl
end
end Fa
namespace Fa
open PySem PySem.Spec PyProof.Rows L2
/-! ### an own error: def __init__(self, v): super().__init__(v); self.f = v -/
abbrev initB (ar f : Str) (p0 p1 p2 p3 p4 p5 p6 p7 p8 p9 : Pos) : List Stmt := [.Expr (.Call (.Attribute (.Call (.Name "super" p0) [] [] p1) "__init__" p2) [.Name ar p3] [] p4) p5, .Assign [.Attribute (.Name "self" p6) f p7] (.Name ar p8) p9]
/-- what is asked of the class at C and of its __init__ at g -/
structure ErrC (P : Program) (K : PySem.W.Frag) (mg : Str → Option Value) (C g : Addr) (fd : FuncData) (ar f : Str) : Prop where
  oc : OexC K C
  fin : PySem.W.findIn K (.ref C) "__init__" = some (some (.ref g))
  ftp : PySem.W.typeIn K (.ref g) = some (.type "function")
  fld : PySem.W.findIn K (.ref C) f = some none
  sup : PySem.W.ks_superIn K C C "__init__" = some (some (.builtin "ValueError.__init__"))
  sub : PySem.W.subIn K (.ref C) (.type "ValueError") = some true
  own : PySem.W.mroIn K C (.ref C) = some true
  opq : PySem.W.nsIn K cStatics "thirdparty.any" = some none
  nos : mg "super" = none
  ex : ∃ (qual : Str) (params : Arguments) (scope : Scope) (dV kV doc pm ct oc : Value) (an od : Option Addr) (osl : Array (Option Value)) (cc cda : Addr) (p0 p1 p2 p3 p4 p5 p6 p7 p8 p9 : Pos) (cl ccl : Value) (cld cdd : Option Addr) (csl ccs : Array (Option Value)) (vs : Array Value) (file : Str) (tf : Tok) (a0 : Arg),
    fd = PySem.W.ksFn "__init__" qual params (initB ar f p0 p1 p2 p3 p4 p5 p6 p7 p8 p9) scope dV kV doc pm an (.ref cda) ct cc ∧
    K.lookup g = some ⟨oc, od, .func fd, osl⟩ ∧ PySem.W.codeIn K (.ref cda) qual = true ∧ K.lookup cc = some ⟨cl, cld, .cell (some (.ref C)), csl⟩ ∧
    K.lookup cda = some ⟨ccl, cdd, .fields vs, ccs⟩ ∧ vs[2]? = some (.str file tf) ∧ ((P.main.file : Str) == file) = true ∧ (P.main.scope.names.lookup ("super" : Str)).isSome = false ∧
    (params.posonlyargs ++ params.args).head? = some a0 ∧ a0.arg = "self" ∧ scope.kind = .function ∧ scope.isCoroutine = false ∧ scope.isGenerator = false ∧
    scope.names.lookup ("super" : Str) = some .globalImplicit ∧ scope.names.lookup ("__class__" : Str) = some .free ∧ scope.names.lookup ("self" : Str) = some .local ∧ scope.names.lookup ar = some .local ∧ (∀ x ∈ scope.names, x.2 ≠ .cell) ∧ (p2.endLine == p4.line) = true
  ard : (ar == ("__debug__" : Str)) = false
  arn : ar ≠ "self"
/-- what the __init__ does -/
def spErr (C : Addr) (f : Str) : Sp := fun vs H Q _ => ∃ (a : Addr) (y : V), vs = [.ref a, y] ∧ H a = some (exo a C none) ∧ ∀ dx, H dx = none → dx ≠ a → Q .non (upd (upd H dx (exd dx [(f, y)])) a (exo a C (some dx)))
theorem made_end {P : Program} {w : World} {H : Hp} {hp h' : Heap} {a C dx t1 : Addr} {f : Str} {y : V} {u : Value} {fs : List Addr} (hok : HOk P w H hp) (ea : H a = some (exo a C none)) (k : ∀ b o, b ≠ a → hp.get? b = some o → h'.get? b = some o) (dn : hp.objs.size ≤ dx) (dne : dx ≠ a)
    (hx : h'.get? a = some ({ cls := .ref C, dict := some dx, data := .fields #[.ref t1, .none, .none, .none, .bool false, .none] } : Obj)) (hn : h'.Ns1 dx (fun g => if g = f then some u else none)) (ry : RelV y u) :
    Un fs [] H (upd (upd H dx (exd dx [(f, y)])) a (exo a C (some dx))) hp h' ∧ HOk P w (upd (upd H dx (exd dx [(f, y)])) a (exo a C (some dx))) h' := by
  have fresh : H dx = none := hok.fresh dn
  have old : ∀ {b : Addr} {o : Obj}, hp.get? b = some o → b ≠ dx := fun {b o} z => Nat.ne_of_lt (Nat.lt_of_lt_of_le (Heap.lt_size z) dn)
  have nota : ∀ {b : Addr}, H b = none → b ≠ a := fun {b} n z => by
    rw [z, ea] at n
    cases n
  have same : ∀ {b : Addr} {o : HO}, H b = some o → exo a C none ≠ o → upd (upd H dx (exd dx [(f, y)])) a (exo a C (some dx)) b = some o := fun {b o} z ne => by
    rw [upd_ne (at_ne ea z ne), upd_ne (ne_of_none z fresh)]
    exact z
  refine ⟨⟨fun b o z n _ _ => k b o (nota n) z, fun b o z n _ _ => ⟨o.slots, k b o (nota n) z⟩, fun b o z n _ => ?_, fun b o z _ => ?_, fun b xs z => same z exo_tup, fun b o v z => same z exo_frz, fun b ps z => ⟨#[], ?_⟩⟩, fun b o z => ?_⟩
  · rw [upd_ne (nota n), upd_ne (old z)]
    exact n
  · by_cases hb : b = a
    · rw [hb]
      exact ⟨_, hx⟩
    · exact ⟨o, k b o hb z⟩
  · rw [same z exo_tbl]
    simp
  · by_cases hb : b = a
    · subst hb
      rw [upd_same] at z
      cases z
      exact exo_ok hx
    · rw [upd_ne hb] at z
      by_cases hd : b = dx
      · subst hd
        rw [upd_same] at z
        cases z
        exact exd_ok hn (relO_put (fs := []) ry fun g => True.intro)
      · rw [upd_ne hd] at z
        refine (hok b o z).stay (fun c v hc z => k c v ?_ z) (fun c hc => same hc exo_own) (fun c xs hc => same hc exo_tup)
        rcases hc with hc | hc
        · rw [hc]
          exact hb
        · exact at_ne ea hc exo_own
theorem call_mw {P : Program} {w : World} {K : PySem.W.Frag} {A : Around} {E : Value → Shared → Prop} {s : Shared} {u x C t : Addr} {rest : List Value} {Q : Value → Shared → Prop} (X : K.In s.heap) (O : OexC K C) (hu : s.heap.get? u = some (PySem.W.kxs_mw "ValueError.__init__" x))
    (he : s.heap.get? x = some (PySem.W.excObj C t none .none)) (hz : rest.length ≤ sizeLine)
    (h : ∀ h', (∀ b o, b ≠ x → s.heap.get? b = some o → h'.get? b = some o) → h'.get? x = some (PySem.W.excObj C s.heap.objs.size none .none) → Q .none { s with heap := h' }) : wpAny (model P w) A (call (.ref u) rest) Q E s := by
  obtain ⟨nm, q, N, bs, bm, sn, sub, ab, col, dd, k0, k1, k2, k3, k5, hC, hbm⟩ := O.cls
  have hC' := X _ _ hC
  obtain ⟨hp, g, d, tk, os⟩ := s
  refine wpAny_call (codeAny_of_tree ?_)
  show wpAny _ A.in1 (callAny (.ref u) ⟨rest, []⟩) _ _ _
  simp only [callAny]
  refine wpAny_bind (wpAny_load hu ?_)
  simp only [PySem.W.kxs_mw, show (Value.type "method-wrapper" == Value.type "method" || Value.type "method-wrapper" == Value.type "builtin_function_or_method" || Value.type "method-wrapper" == Value.type "method-wrapper") = true by decide, if_true]
  refine PySem.W.KFB.if_so (by decide) ?_
  refine wpAny_bind (PySem.W.check_bound_init F.excBase_ValueError.toExcCallFacts hC' he rfl ?_)
  refine wpAny_bind (wpAny_pure (wpAny_pure ?_))
  refine ⟨plainId_quiet F.excBase_ValueError.init.plain _, codeAny_builtin F.excBase_ValueError.initEntry ?_⟩
  exact PySem.W.exc_init_tree (cls := .ref C) (t0 := t) (dv := none) (c2 := .none) (c3 := .none) (b4 := .bool false) he hz fun h' k e _ => h h' k e
theorem fn_err {P : Program} {w : World} {K : PySem.W.Frag} {mg : Str → Option Value} {base : Heap} {CX : CXT} {C g : Addr} {fd : FuncData} {ar f : Str} (T : ErrC P K mg C g fd ar f) : FnOk P w K mg base CX 1 g fd ["self", ar] (spErr C f) := by
  refine ⟨fun vs H Q E h => by obtain ⟨a, y, rfl, _⟩ := h; rfl, fun A outer s H args us vs Q E hr e0 hb rv sp => ?_⟩
  obtain ⟨a, y, rfl, ea, hq⟩ := sp
  obtain ⟨qual, params, scope, dV, kV, doc, pm, ct, oc, an, od, osl, cc, cda, p0, p1, p2, p3, p4, p5, p6, p7, p8, p9, cl, ccl, cld, cdd, csl, ccs, vs, file, tf, a0, rfl, lk, hcd, hcell, hcode, hvs, hfile, htop, hhd, ha0, hkd, hco, hge, ns, nc, nself, nar, ncell, hpos⟩ := T.ex
  obtain ⟨u0, us1, rfl, r0, rv1⟩ : ∃ u0 us1, us = u0 :: us1 ∧ RelV (.ref a) u0 ∧ Vals [y] us1 := by
    cases rv with
    | cons h t => exact ⟨_, _, rfl, h, t⟩
  obtain ⟨u, rfl, ru⟩ : ∃ u, us1 = [u] ∧ RelV y u := by
    cases rv1 with
    | cons h t => cases t; exact ⟨_, rfl, h⟩
  obtain rfl : u0 = Value.ref a := r0
  have keep0 : ∀ b o, base.get? b = some o → s.heap.get? b = some o := fun b o z => (e0.bs b o z).1
  have KX : K.In s.heap := e0.mod.kin.keeps keep0
  have lim : s.heap.NoLimit := e0.mod.nolimit.keeps keep0
  obtain ⟨mb, hmb, hboot⟩ := e0.mod.blt
  obtain ⟨t0, hx0⟩ := exo_at e0.hok ea
  have sz0 : ∀ b o, s.heap.get? b = some o → b < s.heap.objs.size := fun b o z => Heap.lt_size z
  have hok := e0.hok
  have bare := e0.bare
  have hglob := e0.mod.glob.keeps keep0
  have hblt := hmb.keeps keep0
  obtain ⟨hp, gs, dr, tk, os⟩ := s
  refine ks_codeAny_call_defAt (body := initB ar f p0 p1 p2 p3 p4 p5 p6 p7 p8 p9) (binds := [("self", .ref a), (ar, u)]) (by have := hr.dp; omega) (KX _ _ lk) rfl lim (PySem.W.codeRec_of KX hcd) rfl hb ncell (fun x hx => ?_) (fun h0 hns k0 => ?_) hco hge hkd
  · simp only [List.mem_cons, List.not_mem_nil, or_false] at hx
    rcases hx with rfl | rfl
    · exact nself
    · exact nar
  · have ms : ([(("self" : Str), Value.ref a), (ar, u)] : List (Str × Value)).reverse.lookup ("self" : Str) = some (Value.ref a) := by
      have hne : (("self" : Str) == ar) = false := beq_eq_false_iff_ne.mpr fun z => T.arn z.symm
      simp [List.lookup, hne]
    have ma : ([(("self" : Str), Value.ref a), (ar, u)] : List (Str × Value)).reverse.lookup ar = some u := by
      simp [List.lookup]
    have X0 : K.In h0 := KX.keeps k0
    obtain ⟨nm, q, N, bs, bm, sn, sub, ab, col, dd, c0, c1, c2, c3, c5, hC, hbm⟩ := T.oc.cls
    obtain ⟨cd, hcl, hmro, hasD⟩ : ∃ cd : ClassData, PySem.W.clsIn K C = some cd ∧ PySem.HandSPX.refsVE cd.mro = true ∧ cd.hasDict = true := by
      refine ⟨_, by unfold PySem.W.clsIn; rw [hC] <;> rfl, show PySem.HandSPX.refsVE (.ref C :: bm) = true from hbm, rfl⟩
    have hC0 := X0 _ _ hC
    have hx1 : h0.get? a = some ({ cls := .ref C, dict := none, data := .fields #[.ref t0, .none, .none, .none, .bool false, .none] } : Obj) := k0 _ _ hx0
    refine ks_wpAt_execs_cons (ks_wpAt_Expr_any (ks_wpAt_MethodCall (args := [.Name ar p3]) (pl := do return (← importBound (.Call (.Name "super" p0) [] [] p1) (callEnv (PySem.W.ksFn "__init__" qual params (initB ar f p0 p1 p2 p3 p4 p5 p6 p7 p8 p9) scope dV kV doc pm an (.ref cda) ct cc) hp.objs.size g)).getD true) ?_ ?_) (by show (scope.kind == .module && _) = false; rw [hkd]; rfl))
    rotate_left
    · show (attributeBase _ _ _ _ >>= fun ov => standAt _ >>= fun _ => methodCall _ _ _ _ _ _ _ _ _) = _
      unfold methodCall methodCallPos
      simp only [hpos, Bool.or_true, if_true, pure_bind]
      rfl
    refine ks_wpAt_super_base (ar := a0) (of := ⟨oc, od, .func _, osl⟩) ns nc (by decide) rfl (X0 _ _ lk) rfl hhd rfl (X0 _ _ hcode) rfl hvs hfile htop ?_
    refine PySem.W.ks_loadName_global hkd ns (PySem.Calls.loadGlobal_builtin (hglob.keeps k0) T.nos (hblt.keeps k0) ((hboot _ (by decide)).trans (by decide +kernel)) ⟨rfl, ?_⟩)
    refine wpAny_loadName_free hkd nc rfl ⟨_, X0 _ _ hcell, rfl⟩ ?_
    refine wpAny_loadName_local hkd (by rw [ha0]; exact nself) hns (by rw [ha0]; exact ms) ?_
    refine ks_wpAny_isType_cls hC0 rfl ⟨rfl, ?_⟩
    refine ks_wpAny_call_super hC0 rfl hx1 rfl (fun c z => by cases z) (PySem.W.looks_mroIn X0 T.own) (fun h1 hso k1 => ?_)
    have X1 : K.In h1 := X0.keeps k1
    have I1 : PySem.W.InstAt h1 a { cls := .ref C, dict := none, data := .fields #[.ref t0, .none, .none, .none, .bool false, .none] } C none := ⟨k1 _ _ hx1, rfl, rfl, trivial⟩
    have hsup : PySem.W.alongIn K "__init__" ((cd.mro.dropWhile (· != .ref C)).drop 1) = some (some (.builtin "ValueError.__init__")) := by
      have := T.sup
      unfold PySem.W.ks_superIn at this
      rw [hcl] at this
      exact this
    refine PySem.W.kxs_getMethod PySem.W.kxs_ValueError hso (PySem.W.looks_opaque X1 T.opq) (fun A Q E s k q => wpAny_bind ((PySem.W.looks_clsIn X1 hcl) A _ E s k (wpAny_pure q))) rfl X1 hsup (I1.type.andThen (PySem.W.looks_subIn X1 T.sub)) (PySem.W.ks_ne X1 I1 hcl) (by decide) ?_
    have k2 : ∀ b o, hp.get? b = some o → (h1.push (PySem.W.kxs_mw "ValueError.__init__" a)).get? b = some o := fun b o z => Heap.get?_push_of_some _ (k1 _ _ (k0 _ _ z))
    have kL : ∀ {h2 : Heap}, (∀ b o, h1.get? b = some o → h2.get? b = some o) → h2.Ns hp.objs.size (fun x => ([(("self" : Str), Value.ref a), (ar, u)] : List (Str × Value)).reverse.lookup x) := fun {h2} kk => hns.keeps fun b o z => kk b o (k1 b o z)
    have X2 : K.In (h1.push (PySem.W.kxs_mw "ValueError.__init__" a)) := KX.keeps k2
    have mw : (h1.push (PySem.W.kxs_mw "ValueError.__init__" a)).get? h1.objs.size = some (PySem.W.kxs_mw "ValueError.__init__" a) := Heap.get?_push_size _ rfl
    have hx2 : (h1.push (PySem.W.kxs_mw "ValueError.__init__" a)).get? a = some (PySem.W.excObj C t0 none .none) := Heap.get?_push_of_some _ (k1 _ _ hx1)
    show wpAny _ _ (callWith p4 (.ref h1.objs.size) [] (backTo p4 ((false, eval (.Name ar p3) _) :: starEach [] _)) []) _ _ _
    refine PySem.W.kxs_callWith (i := "ValueError.__init__") (x := a) rfl (PySem.Calls.evalArgs_plain ?_)
    refine PySem.Calls.spliced_cons (wpAny_Name (wpAny_loadName_local hkd nar (kL fun b o z => Heap.get?_push_of_some _ z) ma ?_) T.ard)
    refine PySem.Calls.spliced_nil ⟨mw, ?_⟩
    refine call_mw X2 T.oc mw hx2 (by rw [sizeLine_eq]; exact Nat.le_of_ble_eq_true rfl) fun h3 k3 hx3 => ?_
    have k3' : ∀ b o, b ≠ a → hp.get? b = some o → h3.get? b = some o := fun b o hb z => k3 b o hb (k2 b o z)
    have X3 : K.In h3 := fun b o z => k3 b o (fun e => by
      have h9 := e0.bs b o (e0.mod.kin b o z)
      rw [e, ea] at h9
      cases h9.2) (X2 b o z)
    have Lne : hp.objs.size ≠ a := Nat.ne_of_gt (Heap.lt_size hx0)
    have hns3 : h3.Ns hp.objs.size (fun x => ([(("self" : Str), Value.ref a), (ar, u)] : List (Str × Value)).reverse.lookup x) := by
      obtain ⟨oL, es, ep, hL, r⟩ := kL (h2 := h1.push (PySem.W.kxs_mw "ValueError.__init__" a)) fun b o z => Heap.get?_push_of_some _ z
      exact ⟨oL, es, ep, k3 _ _ Lne hL, r⟩
    refine ks_wpAt_execs_cons (ks_wpAt_Assign_Attr (wpAt_of_wpAny (wpAny_Name (wpAny_loadName_local hkd nar hns3 ma ?_) T.ard)))
    refine wpAny_Name (wpAny_loadName_local hkd nself hns3 ms ?_) (by decide)
    refine PySem.W.set_plain X3 (ox := PySem.W.excObj C (h1.push (PySem.W.kxs_mw "ValueError.__init__" a)).objs.size none .none) (od := none) ⟨hx3, rfl, rfl, trivial⟩ T.oc.sa ?_
    refine PySem.HandSPX.exc_osa X3 hx3 hcl hmro hasD T.fld (fun h4 tk4 dx k4 dn dne hx4 hn4 => ?_)
    have dn0 : hp.objs.size ≤ dx := by
      have l3 : hp.objs.size ≤ h3.objs.size := by
        obtain ⟨oL, es, ep, hL, r⟩ := hns3
        exact Nat.le_of_lt (Heap.lt_size hL)
      exact Nat.le_trans l3 dn
    obtain ⟨un, hok4⟩ := made_end (fs := frs outer) (f := f) (y := y) hok ea (fun b o hb z => k4 b o hb (k3' b o hb z)) dn0 dne hx4 hn4 ru
    refine wpAt_of_wpAny ?_
    rw [execs_nil]
    exact wpAny_pure ⟨.non, _, rfl, bare, un, hok4, rfl, hq dx (hok.fresh dn0) dne⟩
end Fa
namespace Fa
open PySem PySem.Spec PyProof.Rows L2
/-! ### raise X(v) -/
def sRaise (cn f : Str) (m : Env → M D) : Env → Sto → Out := fun r S => match m r S with
  | .ok d S' => .ex ⟨cn, [(f, d)]⟩ r S'
  | .err x S' => .ex x r S'
  | .bad => .bad
theorem ss_raise {X : Cx} {W : WX} {cn ar f : Str} {C g : Addr} {fd : FuncData} {e : Expr} {m : Env → M D} {p pos pos2 : Pos} (T : ErrC X.prog X.K X.mg C g fd ar f) (hb : Binds X.K fd ["self", ar] []) (hr : Room 2 X.A) (hc : X.calm = true) (tk : Takes X W)
    (hg : Gl X cn) (hm : X.mg cn = some (.ref C)) (hk : ClsAt X.K cn C) (he : SE X W e m) (hdb : (cn == ("__debug__" : Str)) = false := by decide) (hs : starEach [e] X.env = (false, eval e X.env) :: starEach [] X.env := by rfl) :
    SS X W (.Raise (some (.Call (.Name cn p) [e] [] pos)) none pos2) (sRaise cn f m) :=
  psI (ps_raise hc tk (pmk_oex (CX := L2.CX X.prog X.w) (k := 1) (ds := []) (dvs := []) T.oc T.fin T.ftp (fn_err T) hr hb .nil (passes_call tk fun _ _ _ _ z => z.elim) hg hm (sa_cons he sa_nil hs) hdb hs rfl)) fun D σ H q => by
    obtain ⟨r, mu, S, hS, hE, hp⟩ := q
    refine ⟨r, mu, S, hS, hE, ?_⟩
    unfold sRaise at hp
    have hm2 : mCons m mNil r S = bnd (m r) (fun d => ret [d]) S := by
      unfold mCons mNil bnd ret
      cases m r S <;> rfl
    rw [hm2]
    unfold bnd
    cases er : m r S with
    | bad => rw [er] at hp; exact hp
    | err x S1 => rw [er] at hp; exact fun mu' H' cls dd ex hS' xr => hp mu' H' σ cls dd ex hS' (hE.mono ex) xr
    | ok d S1 =>
      rw [er] at hp
      refine fun mu1 H1 ex1 hS1 vs rv => ?_
      cases rv with
      | cons r1 rv =>
        cases rv
        rename_i y
        refine ⟨by simp, fun a ha => ⟨a, y, by simp, upd_same, fun dx hdx hne => ?_⟩⟩
        have hdx1 : H1 dx = none := by
          rw [upd_ne hne] at hdx
          exact hdx
        have had : a ≠ dx := fun z => hne z.symm
        refine ⟨rfl, dx, [(f, y)], upd_same, by rw [upd_ne hne, upd_same], hdx1, ?_⟩
        have eH : upd (del (upd (upd (upd H1 a (exo a C none)) dx (exd dx [(f, y)])) a (exo a C (some dx))) a) dx (.xd [(f, y)]) = upd H1 dx (.xd [(f, y)]) := by
          funext b
          by_cases hb : b = dx
          · rw [hb, upd_same, upd_same]
          · rw [upd_ne hb, upd_ne hb]
            by_cases hba : b = a
            · rw [hba, del_same, ha]
            · rw [del_ne hba, upd_ne hba, upd_ne hb, upd_ne hba]
        rw [eH]
        have ex2 := ext_tup (mu := mu1) (u := .xd [(f, y)]) hdx1
        exact hp mu1 _ σ (.ref C) (some dx) (ex1.trans ex2) (hS1.tup hdx1) (hE.mono (ex1.trans ex2)) ⟨⟨C, hk, rfl⟩, dx, [(f, y)], rfl, upd_same, .cons ⟨rfl, r1.mono ex2⟩ .nil⟩
theorem sRaise_ap (cn f : Str) (m : Env → M D) (r : Env) (S : Sto) {d : D} {S' : Sto} (h : m r S = .ok d S') : sRaise cn f m r S = .ex ⟨cn, [(f, d)]⟩ r S' := by
  unfold sRaise
  rw [h]
end Fa
namespace Fa
open PySem PySem.Spec PyProof.Rows L2
/-! ### try: .. except x as n: m = n, the error held as a value from then on -/
def exH (a : Addr) (oe : Obj) : HO := .ext fun h => h.get? a = some oe
theorem inv_track {X : Cx} {pins : List (Addr × Obj)} {σ : L2.St} {H : Hp} {s : Shared} {a : Addr} {oe : Obj} (I : Inv X pins σ H s) (ha : s.heap.get? a = some oe) (hn : H a = none) (h0 : X.s_0.heap.get? a = none) (hL : a ≠ X.env.locals) (hcl : ∀ v, oe.data ≠ .cell v) (hp : ∀ p ∈ X.pn ++ pins, p.1 ≠ a) :
    Inv X pins σ (upd H a (exH a oe)) s := by
  have ne : ∀ {b : Addr} {o : HO}, H b = some o → b ≠ a := fun {b o} z e => by
    rw [e, hn] at z
    cases z
  refine ⟨I.ok, I.os, I.bare, ⟨I.base.keep, I.base.slot, fun b o z n x => ?_, I.base.there, fun b xs z => ?_, fun b o u z => ?_, fun b ps z => ?_⟩, I.loc, I.cell, ?_, fun x c z => ?_, fun p hm => ?_, fun b o z => ?_, I.len⟩
  · rw [upd_ne (fun e => by rw [e, h0] at z; cases z)]
    exact I.base.free b o z n x
  · have q := I.base.tups b xs z
    rw [upd_ne (ne q)]
    exact q
  · have q := I.base.frzs b o u z
    rw [upd_ne (ne q)]
    exact q
  · obtain ⟨more, q⟩ := I.base.tbls b ps z
    exact ⟨more, by rw [upd_ne (ne q)]; exact q⟩
  · rw [upd_ne (Ne.symm hL)]
    exact I.free
  · obtain ⟨w', o, ho, hd⟩ := I.cell x c z
    rw [upd_ne (fun e => by rw [e, ha] at ho; cases ho; exact hcl _ hd)]
    exact I.freeC x c z
  · obtain ⟨e1, e2, e3⟩ := I.pin p hm
    exact ⟨e1, by rw [upd_ne (hp p hm)]; exact e2, e3⟩
  · by_cases hb : b = a
    · subst hb
      rw [upd_same] at z
      cases z
      exact ⟨ha, ⟨_, ha⟩, fun h1 h2 q st => st _ q⟩
    · rw [upd_ne hb] at z
      refine (I.hok b o z).stay (fun c v _ q => q) (fun c hc => ?_) (fun c xs hc => ?_)
      · rw [upd_ne (ne hc)]
        exact hc
      · rw [upd_ne (ne hc)]
        exact hc
def wHold (K : PySem.W.Frag) (c : Value) (i j : Nat) (Wout : WX) (D : Ends) : WX := fun cls d σ H =>
  ∃ b, PySem.W.exmOne K cls c = some b ∧ (b = true → ∀ a oe, H a = none → Zc cls d oe → (∃ vs, oe.data = .fields vs) → D.nx (((σ.set i (some (.ref a))).set j (some (.ref a))).set i none) (upd H a (exH a oe))) ∧ (b = false → Wout cls d σ H)
theorem ps_try_hold {X : Cx} {x n m : Str} {c : Value} {i j : Nat} {body : List Stmt} {np pos pos' q1 q2 q3 : Pos} {tb : WX → TS} {Wout : WX} (st : X.stack = X.env :: X.outer) (fr : X.env.frame = some X.env.locals) (hex : X.ex = []) (nd : X.N.Nodup) (hi : X.N[i]? = some n) (hj : X.N[j]? = some m)
    (ln : X.env.kindOf n = some .local) (lm : X.env.scope.names.lookup m = some .local) (nc : Names X x c) (tk : Takes X Wout) (dn : (n == ("__debug__" : Str)) = false) (dc : (n == ("__classdict__" : Str)) = false)
    (hb : ∀ (W : WX) (pn : List (Addr × Obj)) (xe : Value → Shared → Prop), Takes (X.tr pn xe) W → PassesOwn (model X.prog X.w) X.A X.env xe → PSs (X.tr pn xe) body (tb W)) :
    PS X (.Try body [.ExceptHandler (some (.Name x np)) (some n) [.Assign [.Name m q1] (.Name n q2) q3] pos'] [] [] pos) (fun D σ H => tb (wHold X.K c i j Wout D) D σ H) := by
  refine ⟨fun pins s σ H D I h => ?_⟩
  have ok := I.ok
  have frs' : X.A.frames = some (X.env :: X.outer) := by rw [ok.frames, st]
  have lcn : Loc X.env.scope n := .inl ln
  refine wpAny_Try_except ?_
  refine wpAny_mono ((hb (wHold X.K c i j Wout D) (X.pn ++ pins) (fun e s₁ => wpAny (model X.prog X.w) X.A (noteFrame e X.env) (fun _ s₂ => wpAny (model X.prog X.w) X.A (setFlight e none) (fun _ s₃ =>
    wpAny (model X.prog X.w) X.A (handleBy e X.env [.ExceptHandler (some (.Name x np)) (some n) [.Assign [.Name m q1] (.Name n q2) q3] pos']) (L2.SP X pins D) X.xe s₃) X.xe s₂) X.xe s₁) (fun u s' xx => ?_) PassesOwn.looking).run [] s σ H D (I.toTry _) h) (fun f s1 hsp => ?_) (fun e s1 he => he)
  · obtain ⟨a, B, sI, pins', σ', H', cls, d, rfl, J', nb, up, sky, na, os, ag, b, hb1, hyes, hno⟩ := xx
    have J : Inv X pins σ' H' sI := J'.ofTry ok
    have sky' : Sky B (X.env :: X.outer) a (Zc cls d) X.env.locals s'.heap := by rw [← st]; exact sky
    show wpAny (model X.prog X.w) X.A (noteFrame (.ref a) X.env) _ _ _
    refine Sky.land Zc.steady frs' fr sky' fun h3 fl3 up3 => ?_
    have J3 : Inv X pins σ' H' { s' with heap := h3 } := J.landed nb fl3.1 (up.trans up3) os ag
    obtain ⟨oe3, vs3, he3, hz3, hd3⟩ := fl3.there
    have nfr : a ∉ frs (X.env :: X.outer) := fun hm => by
      obtain ⟨_, o', e', hnf⟩ := fl3.2.2.1.mem hm
      rw [he3] at e'
      cases e'
      exact hnf _ hd3
    have nL : a ≠ X.env.locals := fun z => nfr (List.mem_filterMap.mpr ⟨X.env, List.mem_cons_self, by rw [fr, z]⟩)
    have nF : a ∉ X.fs := fun hm => by
      obtain ⟨e, he, q⟩ := List.mem_filterMap.mp hm
      exact nfr (List.mem_filterMap.mpr ⟨e, List.mem_cons_of_mem _ he, q⟩)
    have n0 : X.s_0.heap.get? a = none := by
      cases z : X.s_0.heap.get? a with
      | none => rfl
      | some o =>
        exfalso
        have hx : a ∉ X.ex := by rw [hex]; simp
        obtain ⟨o', ho'⟩ := J.base.there a o z hx
        have := nb a o' ho' (by rw [st]; exact nfr)
        rw [fl3.2.1] at this
        cases this
    have S3 := J3.suite he3 hd3 na nL nF
    refine wpAny_handleBy_cons (codeAny_handlers_test ?_) (by intro q; cases q)
    have LT : PySem.W.Looks (model X.prog X.w) h3 (typeOf (.ref a)) cls := fun A Q E s k q => wpAny_typeOf_ref (k _ _ he3) (by rw [hz3.1]; exact q)
    have LM := PySem.W.exm_one (M := model X.prog X.w) (J3.kIn) LT hb1
    have test : ∀ {Q : Value → Shared → Prop} {E : Value → Shared → Prop}, Q c { s' with heap := h3 } → wpAny (model X.prog X.w) (X.A.mark (some (.ref a))) (eval (.Name x np) X.env) Q E { s' with heap := h3 } := fun {Q E} q => by
      obtain ⟨hg, hdbg, hm | ⟨hm, hv, hnn⟩⟩ := nc
      · exact ld_glob (X := X.suite a ((a, oe3) :: (X.pn ++ pins))) S3 hg hm q hdbg
      · exact ld_blt (X := X.suite a ((a, oe3) :: (X.pn ++ pins))) S3 hg hm hv q hnn hdbg
    refine test (LM.here ?_)
    cases b with
    | true =>
      refine codeAny_handlers_suite_as ?_
      refine HandSPX.lands_againZ fl3 fun h4 fl4 up4 => ?_
      have J4 : Inv X pins σ' H' { s' with heap := h4 } := J.landed nb fl4.1 ((up.trans up3).trans up4) os ag
      obtain ⟨oe4, vs4, he4, hz4, hd4⟩ := fl4.there
      have S4 := J4.suite he4 hd4 na nL nF
      refine store_ok (X := X.suite a ((a, oe4) :: (X.pn ++ pins))) (v := .ref a) S4 nd hi lcn rfl (fun s5 S5 => ?_) (.inr ln)
      have sui : PSs (X.suite a ((a, oe4) :: (X.pn ++ pins))) [.Assign [.Name m q1] (.Name n q2) q3] (tAsg (tVar i) (gName j)) := pss_one (ps_set nd hj (.inl lm) (pe_var hi (.inl ln) dn dc) rfl (.inr lm))
      have lt : i < σ'.length := by
        have h1 := J4.len
        have h2 : i < X.N.length := (List.getElem?_eq_some_iff.mp hi).1
        rw [h1]
        exact h2
      refine wpAny_mono (sui.run [] s5 _ H' { nx := fun σ6 H6 => σ6 = (σ'.set i (some (.ref a))).set j (some (.ref a)) ∧ H6 = H', rt := fun _ _ => False } S5 ⟨.ref a, by rw [List.getElem?_set_self lt], rfl, rfl⟩) (fun f s6 hsp => ?_) (fun _ _ z => False.elim z)
      cases f with
      | next =>
        obtain ⟨σ6, H6, S6, rfl, rfl⟩ := hsp
        obtain ⟨e6, n6, _, _, c6⟩ := S6.pin (a, oe4) (List.mem_append_left _ List.mem_cons_self)
        have K6 := inv_track (S6.unsuite ok) e6 n6 n0 nL c6 (fun p hp z => by
          have e := nb p.1 p.2 (J.pin p hp).1 (by rw [st, z]; exact nfr)
          rw [z, fl3.2.1] at e
          cases e)
        exact gone_ok K6 nd hi ln fun s7 J7 => ⟨_, _, J7, hyes rfl a oe4 na hz4 ⟨_, hd4⟩⟩
      | brk => obtain ⟨_, _, _, z⟩ := hsp; exact z.elim
      | cont => obtain ⟨_, _, _, z⟩ := hsp; exact z.elim
      | ret u => obtain ⟨_, _, _, _, _, z⟩ := hsp; exact z.elim
    | false =>
      show wpAny _ X.A (handleBy (.ref a) X.env []) _ _ _
      refine wpAny_handleBy_nil ?_
      obtain ⟨k1, k2, k3, oe, vs, T, oT, ts', he, hz, hd, h1, hr⟩ := id fl3
      unfold PySem.passOn
      refine wpAny_bind (wpAny_field he hd h1 ?_)
      rw [if_neg (show ¬ ((Value.ref T == Value.none) = true) from by simp)]
      have fin : wpAny (model X.prog X.w) X.A (setFlight (.ref a) X.env.frame) (fun _ s4 => wpAny (model X.prog X.w) X.A (throw (.ref a) : Sem Flow) (L2.SP X pins D) X.xe s4) X.xe { s' with heap := h3 } := by
        rw [fr]
        refine HandSPX.setFlight_upZ fl3 fun h4 hh4 up4 => wpAny_throw (tk _ _ ?_)
        exact ⟨a, B, sI, pins, σ', H', cls, d, rfl, J, nb, (up.trans up3).trans up4, .inr (.inr (by rw [st]; exact hh4)), na, os, ag, hno rfl⟩
      first
        | exact wpAny_bind (wpAny_pure (wpAny_bind fin))
        | exact wpAny_bind fin
  · cases f with
    | next =>
      obtain ⟨σ', H', J', q⟩ := hsp
      exact wpAny_execs_nil ⟨σ', H', J'.ofTry ok, q⟩
    | brk =>
      obtain ⟨σ', H', J', q⟩ := hsp
      exact ⟨σ', H', J'.ofTry ok, q⟩
    | cont =>
      obtain ⟨σ', H', J', q⟩ := hsp
      exact ⟨σ', H', J'.ofTry ok, q⟩
    | ret u =>
      obtain ⟨v, σ', H', J', r, q⟩ := hsp
      exact ⟨v, σ', H', J'.ofTry ok, r, q⟩
end Fa
namespace Fa
open PySem PySem.Spec PyProof.Rows L2 LamX
/-! ### a lambda is made: its table alone is otherwise, a code object may be new -/
theorem lam_mk {X : Cx} {pins : List (Addr × Obj)} {σ : L2.St} {H : Hp} {s : Shared} {c P : Addr} {params : Arguments} {body : Expr} {scope : Scope} {pos : Pos} {E : Value → Shared → Prop} {Q : Value → Shared → Prop} (I : Inv X pins σ H s) (TB : TabB X.base X.mg c P)
    (cod : X.env.code = .ref c) (hT : TabS H P (X.env.qual ++ "<lambda>")) (hdef : defaultsOf params X.env = ([], [])) (hfree : ∀ y ∈ scope.names, y.2 = .free → ∃ c, X.env.cells.lookup y.1 = some c)
    (h : ∀ (f c' : Addr) (pm ctv : Value) (H1 : Hp) (s' : Shared), Inv X pins σ H1 s' → (∀ b o, b ≠ P → H b = some o → H1 b = some o) → (∃ ps, H P = some (.tbl ps)) → TabS H1 P (X.env.qual ++ "<lambda>") →
      s'.heap.get? f = some (PySem.W.kla_obj "<lambda>" (X.env.qual ++ "<lambda>") params body scope (cloFrom X.env.cells scope.names []) pm c' ctv) → H1 f = none → f ∉ frs X.stack → H1 c' = some (CodeO c' (X.env.qual ++ "<lambda>")) → Q (.ref f) s') :
    wpAny (model X.prog X.w) X.A (eval (.Lambda params body scope pos) X.env) Q E s := by
  obtain ⟨ps, hP, tri, codes⟩ := hT
  refine PySem.W.kla_eval hdef ?_
  have bltP : s.heap.BuiltinsAt X.mg P := TB.bm.keeps I.bk
  have objP : s.heap.get? P = some { cls := .none, data := .fields ps } := I.hok P _ hP
  have notFr : ∀ f, s.heap.objs.size ≤ f → f ∉ frs X.stack := fun f hf z => by
    rcases List.mem_cons.mp (I.stkSub _ z) with e | e
    · have l := I.lt
      rw [← e] at l
      exact Nat.lt_irrefl _ (Nat.lt_of_lt_of_le l hf)
    · exact I.nofs hf e
  cases am : codeAmong pos ps.toList with
  | none =>
    refine PySem.W.kla_makeFunction (mg := X.mg) (c := c) (P := P) (ps := ps) (closure_ok hfree) I.ok.glob (I.mod.glob.keeps I.bk) cod (TB.code.keeps I.bk) objP tri am TB.gP bltP fun c' ctv h' tk ext ge lt rec_ tb => ?_
    obtain ⟨c2, oc, vs, t, e2, hoc, hd, hv⟩ := rec_
    cases e2
    have le : s.heap.objs.size ≤ h'.objs.size := Nat.le_trans ge (Nat.le_of_lt lt)
    have newC : H c' = none := I.hok.fresh ge
    have I1 := inv_table (t' := tk) (more := #[rawInt pos.line, rawInt pos.col, .ref c']) (h' := h'.push (PySem.W.kla_obj "<lambda>" (X.env.qual ++ "<lambda>") params body scope (cloFrom X.env.cells scope.names []) ((X.mg "__name__").getD .none) c' ctv)) I hP
      (fun b o hb e => Heap.get?_push_of_some _ (ext b o hb e)) (Heap.get?_push_of_some _ tb) ge ⟨oc, vs, t, Heap.get?_push_of_some _ hoc, hd, hv⟩
    have keep : ∀ b o, b ≠ P → H b = some o → upd (upd H P (.tbl (ps ++ #[rawInt pos.line, rawInt pos.col, .ref c']))) c' (CodeO c' (X.env.qual ++ "<lambda>")) b = some o := fun b o hb e => by
      rw [upd_ne (ne_of_none e newC), upd_ne hb]
      exact e
    have eL : (ps ++ #[rawInt pos.line, rawInt pos.col, .ref c']).toList = ps.toList ++ [rawInt pos.line, rawInt pos.col, .ref c'] := by simp
    refine h h'.objs.size c' ((X.mg "__name__").getD .none) ctv _ _ I1 keep ⟨ps, hP⟩ ?_ (Heap.get?_push_size _ rfl) ?_ (notFr _ le) upd_same
    · refine ⟨_, by rw [upd_ne (ne_of_none hP newC), upd_same], by rw [eL]; exact PySem.TriplesOk_snoc _ _ _ _ tri, fun p' cv hcv => ?_⟩
      rw [eL] at hcv
      rcases among_app _ tri hcv with z | z
      · obtain ⟨k, e1, e2⟩ := codes p' cv z
        exact ⟨k, e1, keep _ _ (fun z => codeO_ne ps (Option.some.inj (e2.symm.trans (by rw [z]; exact hP)))) e2⟩
      · exact ⟨c', z, upd_same⟩
    · rw [upd_ne (Nat.ne_of_gt lt), upd_ne (Nat.ne_of_gt (Nat.lt_of_lt_of_le (Heap.lt_size objP) le))]
      exact I.hok.fresh le
  | some cv =>
    obtain ⟨c', e, hco⟩ := codes pos cv am
    subst e
    refine PySem.W.kla_makeFunctionHit (mg := X.mg) (c := c) (P := P) (ps := ps) (closure_ok hfree) I.ok.glob (I.mod.glob.keeps I.bk) cod (TB.code.keeps I.bk) objP tri am bltP fun ctv h' tk ext le => ?_
    have I1 : Inv X pins σ H { s with heap := h'.push (PySem.W.kla_obj "<lambda>" (X.env.qual ++ "<lambda>") params body scope (cloFrom X.env.cells scope.names []) ((X.mg "__name__").getD .none) c' ctv), toks := tk } := I.kept fun b o e => Heap.get?_push_of_some _ (ext b o e)
    exact h h'.objs.size c' ((X.mg "__name__").getD .none) ctv H _ I1 (fun b o _ e => e) ⟨ps, hP⟩ ⟨ps, hP, tri, codes⟩ (Heap.get?_push_size _ rfl) (I.hok.fresh le) (notFr _ le) hco
/-! ### x() within the def that got the lambda -/
theorem pe_actG {X : Cx} {pins : List (Addr × Obj)} {σ : L2.St} {H : Hp} {s : Shared} {CXg : CXT} {Eg : XK} {Ng : List Str} {qg : Str} {sg : Scope} {g f c' : Addr} {cdg pm ctv : Value} {params : Arguments} {body : Expr} {scope : Scope} {k i : Nat} {a : Str} {pn : List (Addr × Obj)} {xe : Value → Shared → Prop} {W : WX} {tb : XK → TE} {p1 p2 : Pos}
    (I : Inv X pins σ H s) (hgX : X.A.guards = some []) (L : LamS X.env.scope scope) (of0 : s.heap.get? f = some (PySem.W.kla_obj "<lambda>" (X.env.qual ++ "<lambda>") params body scope (cloFrom X.env.cells scope.names []) pm c' ctv)) (fn0 : H f = none) (fr0 : f ∉ frs X.stack)
    (bnd0 : bindArgs (PySem.W.kla_fn "<lambda>" (X.env.qual ++ "<lambda>") params body scope (cloFrom X.env.cells scope.names []) pm (.ref c') ctv) ⟨[], []⟩ = pure [])
    (tk : Takes ((cxOf CXg X.prog X.w X.K X.mg X.base Ng qg sg g cdg X.A X.stack s H Eg).tr pn xe) W) (hr : Room (k + 1) (X.A.deeper (envOfC qg sg s.heap.objs.size g cdg)))
    (hbody : ∀ (E : XK) (A : Around) (outer : List PySem.Env) (s : Shared) (H : Hp), Room k (A.deeper (lamEnv X scope s.heap.objs.size f c')) → A.guards = some [] → PE (lamCx X A outer s H E scope f c') body (tb E))
    (hN : Ng[i]? = some a) (hv : Vis sg a) (hd : (a == ("__debug__" : Str)) = false) (hcd : (a == ("__classdict__" : Str)) = false) :
    PE ((cxOf CXg X.prog X.w X.K X.mg X.base Ng qg sg g cdg X.A X.stack s H Eg).tr pn xe) (.Call (.Name a p1) [] [] p2)
      (fun σZ HZ Q => σZ[i]? = some (some (.ref f)) ∧ HZ c' = some (CodeO c' (X.env.qual ++ "<lambda>")) ∧ tb (WE W σZ) σ HZ Q) := by
  refine ⟨fun pinsZ sZ σZ HZ Q IZ hh => ?_⟩
  obtain ⟨z1, z2, z3⟩ := hh
  refine wpAny_Call_Name_kw (thn ((pe_var (pos := p1) (i := i) hN hv hd hcd).run pinsZ sZ σZ HZ (fun v H1 => v = .ref f ∧ H1 = HZ) IZ ⟨.ref f, z1, rfl, rfl⟩) fun u s1 ⟨v, H1, I1, r1, q1⟩ => ?_)
  obtain ⟨ev, eH⟩ := q1
  subst ev
  rw [eH] at I1
  obtain rfl : u = Value.ref f := r1
  have of1 : s1.heap.get? f = some (PySem.W.kla_obj "<lambda>" (X.env.qual ++ "<lambda>") params body scope (cloFrom X.env.cells scope.names []) pm c' ctv) := I1.base.keep f _ of0 fn0 fr0 (fun z => nomatch (show f ∈ ([] : List Addr) from z))
  refine PySem.W.callWith_F0 ⟨_, _, _, _, of1⟩ ?_
  have un : Un (frs X.stack) [] H HZ s.heap s1.heap := I1.base
  obtain ⟨⟨oc, vs, t, hoc, hdc, hvc⟩, _, _⟩ := I1.hok c' _ z2
  have run : codeAny (model X.prog X.w) (X.A.deeper (envOfC qg sg s.heap.objs.size g cdg)) (.call (.ref f) ⟨[], []⟩) (CR (L2.CX X.prog X.w) (envOfC qg sg s.heap.objs.size g cdg :: X.stack) X.prog X.w HZ s1 Q (WE W σZ)) s1 := by
    refine PySem.W.kla_callFunE hr.depth of1 rfl L.co L.gen rfl ⟨c', oc, vs, t, rfl, hoc, hdc, hvc⟩ ?_
    rw [bnd0]
    refine wpAny_pure (wpAny_newFunctionEnv (fun y hy => (L.own y hy).2) (fun y hy => absurd hy (by simp)) (fun h₁ hns hsb => ⟨I1.nolimit.fresh _ hsb, ?_⟩) L.kind)
    show codeAny _ _ (.expr body (lamEnv X scope s1.heap.objs.size f c')) _ _
    have kp : ∀ b o, s1.heap.get? b = some o → h₁.get? b = some o := fun b o e => hsb.extBut b o (Nat.ne_of_lt (Heap.lt_size e)) (Heap.get?_push_of_some _ e)
    have J : Inv (lamCx X (X.A.deeper (envOfC qg sg s.heap.objs.size g cdg)) (envOfC qg sg s.heap.objs.size g cdg :: X.stack) s1 HZ (WE W σZ) scope f c') [] σ HZ { s1 with heap := h₁, toks := s1.toks + ([] : List (Str × Value)).length } :=
      lam_start2 I L I1.env0 hr.hd un hns kp
    refine PySem.W.kla_codeExpr (wpAny_mono ((hbody _ _ _ s1 HZ (hr.deeper _) hgX).run [] _ _ HZ Q J z3) (fun v s' hq => ?_) fun e s' hq => hq)
    obtain ⟨w', H', J', rv, q⟩ := hq
    exact ⟨w', H', J'.os, J'.bare, J'.base, J'.hok, rv, q⟩
  have pass := passAt tk σZ
  refine wpAny_call (codeAny_mono run fun r s' hq => ?_)
  cases r with
  | error e => exact pass pinsZ HZ s1 e s' I1 hq
  | ok fl =>
    cases fl with
    | ret u => exact I1.after hq
    | next => exact False.elim hq
    | brk => exact False.elim hq
    | cont => exact False.elim hq
end Fa
namespace Fa
open PySem PySem.Spec PyProof.Rows L2 LamX
/-! ### x(lambda: e), where x calls it within a try and holds the error -/
def lamD (n : Nat) (q : Str) (k : M D) : M D := fun S => match S[n]? with
  | some (.tab _ q') => if q' = q then k S else .bad
  | _ => .bad
def exnD (x : Exn) : D := .exn x.cn (x.fs.map (·.1)) (x.fs.map (·.2))
def sTry (jt i j : Nat) (errs : List Str) (m : M D) : Env → Sto → Out := fun r S => match m S with
  | .ok d S' => .nx (r.set jt (some d)) S'
  | .err x S' => if x.cn ∈ errs then .nx (((r.set i none).set j (some (exnD x))).set i none) S' else .bad
  | .bad => .bad
def hoM (rN : Env) (jt i j : Nat) (errs : List Str) (mr : Env → Sto → Out) (m : M D) : M D := fun S => fK (sSeq (sTry jt i j errs m) mr rN S)
section
variable {K : PySem.W.Frag} {mu : List Addr} {H : Hp}
theorem ERep.any {o : Option V} : ∀ {s : L2.St} {r : Env} (i : Nat), ERep K mu H s r → ERep K mu H (s.set i o) (r.set i none)
  | _, _, _, .nil => .nil
  | _, _, 0, .cons _ t => .cons (by cases o <;> trivial) t
  | _, _, i + 1, .cons h t => .cons h (ERep.any i t)
theorem ERep.clear : ∀ {s : L2.St} {r : Env} (i : Nat), ERep K mu H s r → ERep K mu H s (r.set i none)
  | _, _, _, .nil => .nil
  | _ :: _, _, 0, .cons _ t => .cons (by unfold RepO; split <;> trivial) t
  | _, _, i + 1, .cons h t => .cons h (ERep.clear i t)
theorem kreps_split {κ : Type} : ∀ {fs : List (κ × V)} {xs : List (κ × D)}, KReps K mu H fs xs → fs.map (·.1) = xs.map (·.1) ∧ Reps K mu H (fs.map (·.2)) (xs.map (·.2))
  | _, _, .nil => ⟨rfl, .nil⟩
  | _, _, .cons h t => by
    obtain ⟨e1, e2⟩ := kreps_split t
    exact ⟨by rw [List.map_cons, List.map_cons, e1, h.1], .cons h.2 e2⟩
theorem zip_back {α β : Type} : ∀ l : List (α × β), (l.map (·.1)).zip (l.map (·.2)) = l
  | [] => rfl
  | p :: l => by rw [List.map_cons, List.map_cons, List.zip_cons_cons, zip_back l]
theorem tab_ext {H1 : Hp} {P : Addr} (keep : ∀ b o, b ≠ P → H b = some o → H1 b = some o) (hP : ∃ ps, H P = some (.tbl ps)) (h1 : ∃ ps, H1 P = some (.tbl ps)) (hm : P ∈ mu) : Ext mu H mu H1 := by
  obtain ⟨ps, hP⟩ := hP
  obtain ⟨ps1, h1⟩ := h1
  have ne : ∀ {b : Addr} {o : HO}, H b = some o → (∀ q, o ≠ .tbl q) → b ≠ P := fun {b o} z n e => by
    rw [e, hP] at z
    exact n _ (Option.some.inj z).symm
  refine ⟨⟨[], by simp, fun _ z => nomatch z⟩, fun b z => ?_, fun b o hb z => keep b o (fun e => hb (by rw [e]; exact hm)) z, fun b φ z => keep b _ (ne z fun q e => by cases e) z, fun b fs z => keep b _ (ne z fun q e => by cases e) z, fun b xs z => keep b _ (ne z fun q e => by cases e) z, fun b o u z => keep b _ (ne z fun q e => by cases e) z⟩
  cases e : H b with
  | none => rfl
  | some o =>
    by_cases hb : b = P
    · rw [hb, h1] at z; cases z
    · rw [keep b o hb e] at z; cases z
theorem tab_hrep {H1 : Hp} {P P0 : Addr} {q : Str} {S : Sto} {n : Nat} (hS : HRep K mu H S) (hn : S[n]? = some (.tab P0 q)) (hmu : mu[n]? = some P) (keep : ∀ b o, b ≠ P → H b = some o → H1 b = some o) (ex : Ext mu H mu H1) (hT : TabS H1 P (q ++ ".<locals>." ++ "<lambda>")) : HRep K mu H1 S := by
  refine ⟨hS.len, hS.nd, fun k o a e1 e2 => ?_⟩
  have q0 := hS.ob k o a e1 e2
  by_cases ha : a = P
  · subst ha
    have hk : k = n := by
      obtain ⟨l1, g1⟩ := List.getElem?_eq_some_iff.mp e2
      exact (List.getElem?_inj l1 hS.nd).mp (e2.trans hmu.symm)
    subst hk
    rw [hn] at e1
    cases e1
    exact ⟨q0.1, hT⟩
  · obtain ⟨u, hu⟩ := q0.some
    exact q0.mono ex (by rw [keep a u ha hu, hu])
end
theorem se_lam {X : Cx} {W : WX} {x a q nn nm nt nx : Str} {g c P CF : Addr} {fd : FuncData} {st : Stmt} {Ng : List Str} {k n jt i j : Nat} {errs : List Str} {params : Arguments} {body : Expr} {scope : Scope} {p lpos pos u1 u2 u3 u4 u5 u6 u7 u8 u9 u10 : Pos} {s0 : Stmt} {rest : List Stmt} {m : Env → M D} {m0 mr : Env → Sto → Out} {rN : Env}
    (Fu : L2.Fun X.K x x st g fd) (Sg : FnScope Ng [a] (defScope st))
    (hbg : defBody st = s0 :: .Try [.Assign [.Name nt u1] (.Call (.Name a u2) [] [] u3) u4] [.ExceptHandler (some (.Name nx u5)) (some nn) [.Assign [.Name nm u6] (.Name nn u7) u8] u9] [] [] u10 :: rest)
    (hg : Gl X x) (hm : X.mg x = some (.ref g)) (hb : L2.Binds X.K fd [a] []) (h0 : Ng[0]? = some a) (hva : Vis (defScope st) a) (hjt : Ng[jt]? = some nt) (lt : (defScope st).names.lookup nt = some .local)
    (hi : Ng[i]? = some nn) (ln : (defScope st).names.lookup nn = some .local) (hj : Ng[j]? = some nm) (lm : (defScope st).names.lookup nm = some .local) (lx : (defScope st).names.lookup nx = some .globalImplicit) (mx : X.mg nx = some (.ref CF))
    (herr : ∀ cn ∈ errs, ∀ C, ClsAt X.K cn C → PySem.W.exmOne X.K (.ref C) (.ref CF) = some true)
    (hti : PySem.W.tabIn X.K q = some (c, P)) (TB : TabB X.base X.mg c P) (cod : X.env.code = .ref c) (qu : X.env.qual = q ++ ".<locals>.")
    (hr : Room (k + 2) X.A) (gX : X.A.guards = some []) (tk : Takes X W) (L : LamS X.env.scope scope) (hdef : defaultsOf params X.env = ([], []))
    (hbind : ∀ (q : Str) (cl : List (Str × Addr)) (pm cv ctv : Value), bindArgs (PySem.W.kla_fn "<lambda>" q params body scope cl pm cv ctv) ⟨[], []⟩ = pure [])
    (hbody : ∀ (A : Around) (outer : List PySem.Env) (s : Shared) (H : Hp) (E : XK) (f c' : Addr), Room k (A.deeper (lamEnv X scope s.heap.objs.size f c')) → A.guards = some [] → Takes (lamCx X A outer s H E scope f c') (WF E) → SE (lamCx X A outer s H E scope f c') (WF E) body m)
    (hd : ∀ (cdv : Value) (A : Around) (outer : List PySem.Env) (s : Shared) (H : Hp) (E : XK), Room (k + 1) (A.deeper (envOfC x (defScope st) s.heap.objs.size g cdv)) → A.guards = some [] →
      Takes (cxOf (L2.CX X.prog X.w) X.prog X.w X.K X.mg X.base Ng x (defScope st) g cdv A outer s H E) (WF E) → SS (cxOf (L2.CX X.prog X.w) X.prog X.w X.K X.mg X.base Ng x (defScope st) g cdv A outer s H E) (WF E) s0 m0 ∧ SB (cxOf (L2.CX X.prog X.w) X.prog X.w X.K X.mg X.base Ng x (defScope st) g cdv A outer s H E) (WF E) rest mr)
    (hm0 : ∀ f S, m0 (some (.adr f) :: List.replicate (Ng.length - 1) none) S = .nx (rN.set 0 (some (.adr f))) S) (h00 : rN.set 0 none = rN) (h0l : 0 < rN.length)
    (db : (x == ("__debug__" : Str)) = false := by decide) (da : (a == ("__debug__" : Str)) = false := by decide) (dac : (a == ("__classdict__" : Str)) = false := by decide) (dx : (nx == ("__debug__" : Str)) = false := by decide) (dn : (nn == ("__debug__" : Str)) = false := by decide) (dnc : (nn == ("__classdict__" : Str)) = false := by decide) :
    SE X W (.Call (.Name x p) [.Lambda params body scope lpos] [] pos) (fun r => lamD n q (hoM rN jt i j errs mr (m r))) := by
  refine ⟨fun pins s σ H Q I hh => ?_⟩
  obtain ⟨r, mu, S, hS, hE, hp⟩ := hh
  obtain ⟨P0, hn, hp⟩ : ∃ P0, S[n]? = some (.tab P0 q) ∧ Post X.K W σ mu H (fun d _ mu' H' => ∀ v, Rep X.K mu' H' v d → Q v H') (hoM rN jt i j errs mr (m r) S) := by
    have hp2 : Post X.K W σ mu H (fun d _ mu' H' => ∀ v, Rep X.K mu' H' v d → Q v H') (lamD n q (hoM rN jt i j errs mr (m r)) S) := hp
    unfold lamD at hp2
    split at hp2
    · rename_i P0 q' hn
      split at hp2
      · rename_i e
        subst e
        exact ⟨P0, hn, hp2⟩
      · exact hp2.elim
    · exact hp2.elim
  obtain ⟨aP, hmu, ⟨c2, ht2⟩, hTab⟩ := hS.at hn
  obtain rfl : aP = P := by
    rw [hti] at ht2
    cases ht2
    rfl
  have eq : X.env.qual ++ "<lambda>" = q ++ ".<locals>." ++ "<lambda>" := by rw [qu]
  refine wpAny_Call_Name_kw (ld_glob I hg hm ?_ db)
  refine PySem.W.callWith_K (h₀ := X.base) I.ok.mod.kin Fu.kp ?_ (by rfl) (by rfl)
  show wpAny _ _ (spliced ((false, eval (.Lambda params body scope lpos) X.env) :: backTo pos (starEach [] X.env))) _ _ s
  refine Calls.spliced_cons (lam_mk I TB cod (by rw [eq]; exact hTab) hdef (L.has I.ok) fun f c' pm' ctv H1 s' I1 keep hPt T1 of0 fn0 fr0 co => ?_)
  refine Calls.spliced_nil ⟨I1.kIn, ?_⟩
  have hmem : aP ∈ mu := List.mem_of_getElem? hmu
  have T1' := T1
  rw [eq] at T1'
  have ex1 : Ext mu H mu H1 := tab_ext keep hPt (by obtain ⟨ps, e, _⟩ := T1; exact ⟨ps, e⟩) hmem
  have hS1 : HRep X.K mu H1 S := tab_hrep hS hn hmu keep ex1 T1'
  have hE1 := hE.mono ex1
  obtain ⟨oc, od, kV, doc, pm, an, cdv, ct, osl, rfl, lk, hcd⟩ := Fu.ex
  have rc : codeAny (model X.prog X.w) X.A (.call (.ref g) ⟨[.ref f], []⟩) (CR (L2.CX X.prog X.w) X.stack X.prog X.w H1 s' Q (WE W σ)) s' := by
    refine run_ofS (k := k + 1) (N := Ng) (ps := [a]) (us := [.ref f]) (vs := [.ref f]) lk hcd Sg hr I1.env0 (hb s' [.ref f] I1.kIn rfl) (.cons rfl .nil) rfl fun hr' => ?_
    have tkZ : Takes (cxOf (L2.CX X.prog X.w) X.prog X.w X.K X.mg X.base Ng x (defScope st) g cdv X.A X.stack s' H1 (WE W σ)) (WF (WE W σ)) := takes_of rfl rfl rfl rfl
    obtain ⟨d0, dr⟩ := hd cdv X.A X.stack s' H1 (WE W σ) hr' gX tkZ
    rw [hbg]
    refine ⟨_, pss_cons d0 (pss_cons (ps_try_hold (c := .ref CF) rfl rfl rfl Sg.nd hi hj ln lm ⟨lx, dx, .inl mx⟩ tkZ dn dnc (fun W2 pn xe tk2 po => pss_one (ps_set (X := (cxOf (L2.CX X.prog X.w) X.prog X.w X.K X.mg X.base Ng x (defScope st) g cdv X.A X.stack s' H1 (WE W σ)).tr pn xe) Sg.nd hjt (.inl lt) (pe_actG I1 gX L of0 fn0 fr0 (hbind _ _ _ _ _) tk2 hr' (tb := fun E => rdE X.K (WF E) m) (fun E A outer s H hr2 hg2 => hbody A outer s H E f c' hr2 hg2 (takes_of rfl rfl rfl rfl)) h0 hva da dac) rfl (.inr lt)))) dr), ?_⟩
    have hE0 : ERep X.K mu H1 (L2.start Ng [V.ref f]) (some (D.adr f) :: List.replicate (Ng.length - 1) none) := erep_start (vs := [V.ref f]) (ds := [D.adr f]) (Ng.length - 1) (.cons (.adr f) .nil)
    refine ⟨_, mu, S, hS1, hE0, ?_⟩
    rw [hm0]
    refine fun mu2 H2 σ2 ex2 hS2 hE2 => ?_
    have hs2 : σ2[0]? = some (some (.ref f)) := by
      obtain ⟨v, e1, e2⟩ := hE2.get (i := 0) (d := .adr f) (by rw [List.getElem?_set_self h0l])
      cases e2
      exact e1
    have hEN : ERep X.K mu2 H2 σ2 rN := by
      have := hE2.clear 0
      rw [List.set_set, h00] at this
      exact this
    have later : Post X.K W σ mu2 H2 (fun d _ mu' H' => ∀ v, Rep X.K mu' H' v d → Q v H') (hoM rN jt i j errs mr (m r) S) := hp.later (ex1.trans ex2)
    -- what follows the try
    have go : ∀ (r' : Env) (S' : Sto) (mu3 : List Addr) (H3 : Hp) (σ3 : L2.St), HRep X.K mu3 H3 S' → ERep X.K mu3 H3 σ3 r' → Post X.K W σ mu3 H3 (fun d _ mu' H' => ∀ v, Rep X.K mu' H' v d → Q v H') (fK (mr r' S')) →
        rdS X.K (WF (WE W σ)) mr { nx := fun _ H' => Q .non H', rt := Q } σ3 H3 := fun r' S' mu3 H3 σ3 h1 h2 h3 => by
      refine ⟨r', mu3, S', h1, h2, ?_⟩
      cases e : mr r' S' with
      | nx r4 S4 => rw [e] at h3; exact fun m4 H4 s4 e4 g4 _ => h3 m4 H4 e4 g4 _ .non
      | rt d S4 => rw [e] at h3; exact fun m4 H4 v e4 g4 q4 => h3 m4 H4 e4 g4 v q4
      | ex x r4 S4 => rw [e] at h3; exact fun m4 H4 s4 cls dd e4 g4 _ xr => h3 m4 H4 cls dd e4 g4 xr
      | bk r4 S4 => rw [e] at h3; exact h3.elim
      | ct r4 S4 => rw [e] at h3; exact h3.elim
      | bad => rw [e] at h3; exact h3.elim
    refine ⟨hs2, ex2.exts _ _ co, r, mu2, S, hS2, hE1.mono ex2, ?_⟩
    unfold hoM sSeq sTry at later
    cases em : m r S with
    | bad => rw [em] at later; exact later.elim
    | ok d S3 =>
      rw [em] at later
      refine fun mu3 H3 ex3 hS3 v rv => ?_
      exact go _ _ _ _ _ hS3 ((hEN.mono ex3).set rv jt) (later.later ex3)
    | err y S3 =>
      rw [em] at later
      by_cases hy : y.cn ∈ errs
      · simp only [if_pos hy] at later
        refine fun mu3 H3 cls dd ex3 hS3 xr => ?_
        obtain ⟨⟨C, hC, rfl⟩, ad, fs, rfl, had, hkr⟩ := xr
        refine ⟨true, herr y.cn hy C hC, fun _ b oe hb hz hf => ?_, fun z => by cases z⟩
        obtain ⟨fv, hfv⟩ := hf
        have ex4 : Ext mu3 H3 mu3 (upd H3 b (exH b oe)) := ext_tup hb
        have hne : ad ≠ b := fun z => by rw [z, hb] at had; cases had
        obtain ⟨e1, e2⟩ := kreps_split hkr
        have rep : Rep X.K mu3 (upd H3 b (exH b oe)) (.ref b) (exnD y) := by
          refine .exn (oe := oe) (fv := fv) (vs := fs.map (·.2)) hC upd_same hz.1 hz.2 hfv ?_ (e2.mono ex4)
          rw [upd_ne hne, had, ← e1, zip_back]
        exact go _ _ _ _ _ (hS3.tup hb) (((((hEN.mono ex3).mono ex4).any i).set rep j).any i) ((later.later ex3).later ex4)
      · simp only [if_neg hy] at later
        exact later.elim
  refine wpAny_call (codeAny_mono rc fun r s2 hq => ?_)
  cases r with
  | error e => exact passAt tk σ pins H1 s' e s2 I1 hq
  | ok fl =>
    cases fl with
    | ret u => exact I1.after hq
    | next => exact False.elim hq
    | brk => exact False.elim hq
    | cont => exact False.elim hq
end Fa
namespace PySem.W
open PySem PySem.Spec PySem.Calls PyProof.Rows
section
variable {prog : Program} {w : World} {A : Around} {E : Value → Shared → Prop} {s : Shared} {K : Frag} {y Z : Addr} {oy : Obj} {od : Option Obj}
/-- e.__class__ of an error that has a dict -/
theorem fa_classOf {Q : Option Value → Shared → Prop} (T : L2.ExcC K Z) (X : K.In s.heap) (I : InstAt s.heap y oy Z od) (h : Q (some (.ref Z)) { s with toks := s.toks + 1 }) : wpAny (model prog w) A (getAttr? (.ref y) "__class__") Q E s := by
  have fo : findObj K Z od "__class__" = some (.bind (.builtin "getset_descriptor.__get__") (.builtin "object.__class__")) := by
    obtain ⟨cd, hc, _⟩ := any_some T.hd
    unfold findObj
    rw [hc, Option.bind_some, T.ha, Option.bind_some]
    simp [T.hn, T.ht]
  obtain ⟨hp, g, d, t, os⟩ := s
  have q0 := I.type (M := model prog w)
  have q1 := looks_findIn (M := model prog w) X T.hg
  have q2 := looks_findIn (M := model prog w) X T.hk
  have q3 := looks_find (M := model prog w) X I fo
  have isb : Looks (model prog w) hp (isInstance (.ref y) (.type "BaseException")) true := q0.andThen (looks_subIn X T.hs)
  have n0 : (false && onTheHeap (Value.builtin "BaseException.__getattribute__")) = false := rfl
  have n2 : (Value.builtin "BaseException.__getattribute__" == Value.builtin "object.__getattribute__") = false := by decide +kernel
  have n1 : (onTheHeap (Value.ref Z) && Value.builtin "BaseException.__getattribute__" == Value.builtin "object.__getattribute__") = false := by rw [n2]; rfl
  unfold getAttr? getAttrBy? getAttrBy
  refine wpAny_bind (wpAny_mkText (wpAny_bind (wpAny_attempt (wpAny_holding (wpAny_bind (q0.at (wpAny_bind (q1.at ?_))))))))
  show wpAny _ _ (if (onTheHeap (Value.ref Z) && Value.builtin "BaseException.__getattribute__" == Value.builtin "object.__getattribute__") = true then _ else _) _ _ _
  rw [n1, if_neg Bool.false_ne_true]
  unfold getAttrByItsOwn hookBefore
  refine wpAny_bind ?_
  rw [if_pos (show onTheHeap (Value.ref Z) = true from rfl)]
  refine q2.at ?_
  refine wpAny_bind (wpAny_attempt (wpAny_holding ?_))
  unfold callGetattribute
  rw [n0, if_neg Bool.false_ne_true]
  unfold boundAndCalled
  rw [PySem.F.excAttr_ValueError.ga.bind (.ref y)]
  refine wpAny_bind (wpAny_pure ?_)
  show wpAny _ _ (call (.builtin "BaseException.__getattribute__") [.ref y, .str "__class__" t]) _ _ _
  refine wpAny_call (codeAny_call_builtin PySem.F.excAttr_ValueError.ga.plain PySem.F.entry_bexc_ga ?_)
  refine @check_slot (model prog w) _ _ ⟨hp, g, d, t + 1, os⟩ "BaseException.__getattribute__" "BaseException" "__getattribute__" (.ref y) [.str "__class__" t] [] _ (by decide +kernel) (by decide +kernel) isb (PySem.F.args_bexc_ga (.ref y) (.str "__class__" t)) ?_
  unfold Builtin.«object.__getattribute__»
  refine wpAny_bind (wpAny_of_eq (a := ((Value.ref y : Value), [Value.str "__class__" t])) (by first | rfl | (simp only [slotArgs]; rfl)) ?_)
  refine wpAny_bind (wpAny_pure (wpAny_bind (q0.at (wpAny_bind (q3.at ?_)))))
  show wpAny _ _ (holding [Value.builtin "object.__class__"] (call (.builtin "getset_descriptor.__get__") [.builtin "object.__class__", .ref y, .ref Z]) >>= ret) _ _ _
  refine wpAny_bind (wpAny_holding (wpAny_call (class_get (s := ⟨hp, g, d, t + 1, os⟩) (ox := oy) (od := od) X I T.hm ?_)))
  refine wpAny_pure ?_
  show wpAny _ _ (handedOut (.ref Z)) _ _ _
  rw [handedOut_of (v := .ref Z) rfl]
  first
    | exact wpAny_pure (wpAny_pure h)
    | exact wpAny_pure h
    | exact wpAny_pure (wpAny_bind (wpAny_pure (wpAny_pure h)))
theorem fa_kitx (T : L2.ExcC K Z) : KitX K (.ref y) (.ref Z) (fun h => ∃ oy od, InstAt h y oy Z od) where
  ty := fun _ _ _ ⟨_, _, I⟩ => I.type
  it := fun _ _ X _ => by
    obtain ⟨cd, hc, _⟩ := any_some T.hd
    unfold clsIn at hc
    split at hc
    · rename_i ho
      intro A' Q' E' s' k q
      unfold isType loadHead
      exact wpAny_bind (wpAny_loadPart (k _ _ (X _ _ ho)) (wpAny_pure q))
    · cases hc
  ne := fun h tp dd its n sl X htp => by
    obtain ⟨cd, hc, _⟩ := any_some T.hd
    refine Bool.eq_false_iff.mpr fun q => ?_
    have e : Z = tp := Value.ref.inj (beq_iff_eq.mp q)
    subst e
    unfold clsIn at hc
    split at hc
    · rename_i ho
      have z := (X _ _ ho).symm.trans htp
      cases z
    · cases hc
  ca := fun X ⟨_, _, I⟩ k => fa_classOf T X I k
end
end PySem.W
namespace Fa
open PySem PySem.Spec PyProof.Rows L2 LamX
/-! ### an error held as a value: its field, isinstance -/
def xfD (f : Str) (errs : List Str) : D → M D := fun d S => match d with
  | .exn cn ns ds => if cn ∈ errs then (match (ns.zip ds).lookup f with
    | some v => .ok v S
    | none => .bad) else .bad
  | _ => .bad
theorem lookup_reps {K : PySem.W.Frag} {mu : List Addr} {H : Hp} {f : Str} : ∀ {ns : List Str} {vs : List V} {ds : List D} {d : D}, Reps K mu H vs ds → (ns.zip ds).lookup f = some d → ∃ v, (ns.zip vs).lookup f = some v ∧ Rep K mu H v d
  | [], _, _, _, _, h => by cases h
  | _ :: _, _, _, _, .nil, h => by cases h
  | n :: ns, _, _, d, .cons r t, h => by
    rw [List.zip_cons_cons, List.lookup_cons] at h ⊢
    split at h
    · rename_i e
      cases h
      exact ⟨_, rfl, r⟩
    · exact lookup_reps t h
/-- the object of an error that is held -/
theorem exn_at {X : Cx} {pins : List (Addr × Obj)} {σ : L2.St} {H : Hp} {s : Shared} {a : Addr} {oe : Obj} (I : Inv X pins σ H s) (h : H a = some (.ext fun h => h.get? a = some oe)) : s.heap.get? a = some oe := (I.hok a _ h).1
theorem se_xf {X : Cx} {W : WX} {e : Expr} {m : Env → M D} {f : Str} {errs : List Str} {pos : Pos} (hX : ∀ cn ∈ errs, ∀ C, ClsAt X.K cn C → XfC X.K C ∧ PySem.W.findIn X.K (.ref C) f = some none) (he : SE X W e m) (hb : attributeBase e f X.env (eval e X.env) = eval e X.env := by rfl) :
    SE X W (.Attribute e f pos) (m1 (xfD f errs) m) := by
  refine ⟨fun pins s σ H Q I q => ?_⟩
  obtain ⟨r, mu, S, hS, hE, hp⟩ := q
  refine attr_of hb (thn (he.run pins s σ H (fun v H1 => ∃ (a C dd : Addr) (oe : Obj) (fv : Array Value) (fs : List (Str × V)) (u : V), v = .ref a ∧ XfC X.K C ∧ PySem.W.findIn X.K (.ref C) f = some none ∧ H1 a = some (.ext fun h => h.get? a = some oe) ∧ oe.cls = .ref C ∧ oe.dict = some dd ∧ oe.data = .fields fv ∧ H1 dd = some (.xd fs) ∧ fs.lookup f = some u ∧ Q u H1) I ⟨r, mu, S, hS, hE, hp.bnd.imp fun d S1 mu1 H1 ex hS1 q1 v rv => ?_⟩) fun u s1 hh => ?_)
  · unfold xfD at q1
    split at q1
    · rename_i cn ns ds
      split at q1
      · rename_i hcn
        split at q1
        · rename_i w hl
          cases rv with
          | exn h0 h1 h2 h3 h4 h5 h6 =>
            obtain ⟨x1, x2⟩ := hX cn hcn _ h0
            obtain ⟨u, l1, l2⟩ := lookup_reps h6 hl
            exact ⟨_, _, _, _, _, _, u, rfl, x1, x2, h1, h2, h3, h4, h5, l1, q1 mu1 H1 Ext.refl hS1 u l2⟩
        · exact q1.elim
      · exact q1.elim
    · exact q1.elim
  · obtain ⟨x, H1, I1, rx, a, C, dd, oe, fv, fs, v, rfl, T, hno, ha, hc, hd, hdat, hdd, hl, q⟩ := hh
    obtain rfl : u = Value.ref a := rx
    have hget := exn_at I1 ha
    obtain ⟨mA, hns, hr⟩ : ObjOk X.prog X.w H1 s1.heap dd (.xd fs) := I1.hok dd _ hdd
    obtain ⟨od, ho, hlk⟩ := lookIn_ns hns
    obtain ⟨u, hu, ru⟩ := RelO.some_of (v := v) (o := mA f) (by rw [← hl]; exact hr f)
    have J : PySem.W.InstAt s1.heap a oe C (some od) := ⟨hget, hc, by unfold PySem.W.notCls; rw [hdat] <;> rfl, by rw [hd]; exact ho⟩
    exact HandSPX.exc_get I1.kIn J T.ga T.gg T.exC (PySem.W.findObj_own T.hdC hno rfl (by rw [hlk, hu])) (handed_of ru) ⟨v, H1, I1.tok _, ru, q⟩
/-- isinstance(e, cl), where e is such an error, or None: what it tells, by the error's class -/
def isxD (l : List (Str × Bool)) : D → M D := fun d S => match d with
  | .exn cn _ _ => match l.lookup cn with
    | some b => .ok (.bl b) S
    | none => .bad
  | _ => .bad
theorem se_isx {X : Cx} {W : WX} {e ce : Expr} {m : Env → M D} {cv : Value} {c : V} {l : List (Str × Bool)} {p pos : Pos} (hg : Gl X "isinstance") (hm : X.mg "isinstance" = none) (hce : PE X ce (tC c)) (hcv : ∀ u, RelV c u → u = cv)
    (hX : ∀ cn b, l.lookup cn = some b → ∀ C, ClsAt X.K cn C → ExcC X.K C ∧ PySem.W.kitOne X.K (.ref C) cv = some b) (he : SE X W e m)
    (hs : starEach [e, ce] X.env = (false, eval e X.env) :: starEach [ce] X.env := by rfl) (hs2 : starEach [ce] X.env = (false, eval ce X.env) :: starEach [] X.env := by rfl) (hpl : (backTo pos (starEach [ce] X.env)).any (·.1) = false := by rfl) :
    SE X W (.Call (.Name "isinstance" p) [e, ce] [] pos) (m1 (isxD l) m) := by
  refine ⟨fun pins s σ H Q I q => ?_⟩
  obtain ⟨r, mu, S, hS, hE, hp⟩ := q
  refine Call_ (ld_blt (u := .builtin "isinstance") I hg hm (by decide +kernel) ?_)
  refine PyProof.Rows.callWith_builtin1 (PyProof.Rows.args_cons (thn (he.run pins s σ H (fun v H1 => ∃ (a C : Addr) (oe : Obj) (fv : Array Value) (b : Bool), v = .ref a ∧ ExcC X.K C ∧ PySem.W.kitOne X.K (.ref C) cv = some b ∧ H1 a = some (.ext fun h => h.get? a = some oe) ∧ oe.cls = .ref C ∧ oe.data = .fields fv ∧ (∃ dd fs, oe.dict = some dd ∧ H1 dd = some (.xd fs)) ∧ Q (.bl b) H1) I ⟨r, mu, S, hS, hE, hp.bnd.imp fun d S1 mu1 H1 ex hS1 q1 v rv => ?_⟩) fun u s1 hh => ?_) hs) hs hpl
  · unfold isxD at q1
    split at q1
    · rename_i cn ns ds
      split at q1
      · rename_i b hl
        cases rv with
        | exn h0 h1 h2 h3 h4 h5 h6 =>
          obtain ⟨x1, x2⟩ := hX cn b hl _ h0
          exact ⟨_, _, _, _, b, rfl, x1, x2, h1, h2, h4, ⟨_, _, h3, h5⟩, q1 mu1 H1 Ext.refl hS1 _ (.bl b)⟩
      · exact q1.elim
    · exact q1.elim
  · obtain ⟨x, H1, I1, rx, a, C, oe, fv, b, rfl, T, hk, ha, hc, hdat, ⟨dd, fs, hd, hdd⟩, q⟩ := hh
    obtain rfl : u = Value.ref a := rx
    refine PyProof.Rows.args_cons (thn (hce.run pins s1 σ H1 (fun v H2 => v = c ∧ H2 = H1) I1 ⟨rfl, rfl⟩) fun u2 s2 ⟨x2, H2, I2, r2, e2⟩ => ?_) hs2
    obtain ⟨e2, e3⟩ := e2
    subst e2
    rw [e3] at I2
    have ec := hcv _ r2
    subst ec
    refine PyProof.Rows.args_nil ?_
    have hget := exn_at I2 ha
    obtain ⟨mA, hns, hr⟩ : ObjOk X.prog X.w H1 s2.heap dd (.xd fs) := I2.hok dd _ hdd
    obtain ⟨od, ho, _⟩ := lookIn_ns hns
    have J : PySem.W.InstAt s2.heap a oe C (some od) := ⟨hget, hc, by unfold PySem.W.notCls; rw [hdat] <;> rfl, by rw [hd]; exact ho⟩
    exact PySem.W.kia_one (PySem.W.fa_kitx T) I2.kIn ⟨oe, some od, J⟩ hk (fun z => nomatch z) fun tk => ⟨.bl b, H1, I2.kept (t' := tk) fun _ _ z => z, rfl, q⟩
end Fa
namespace Fa
open PySem PySem.Spec PyProof.Rows L2 LamX
section
variable {K : PySem.W.Frag} {X : Cx}
/-! ### xs.count(y), xs.index(y), flat items -/
def rCntF (K : PySem.W.Frag) : V → List V → Hp → VK → Prop := fun x xs H Q => ∃ (a : Addr) (ys : List V) (y : V), x = V.ref a ∧ xs = [y] ∧ SqL K H a ys ∧ flatV y = true ∧ ys.all flatV = true ∧ Q (.int (ys.countP fun z => eqV z y : Nat)) H
theorem cnt_vals {y : V} : ∀ {ys : List V} {its : List Value}, Vals ys its → ys.all flatV = true → its.countP (eqU y) = ys.countP fun z => eqV z y
  | _, _, .nil, _ => rfl
  | z :: zs, u :: us, .cons r t, f => by
    rw [List.all_cons, Bool.and_eq_true] at f
    rw [List.countP_cons, List.countP_cons, cnt_vals t f.2, eqU_of r f.1]
theorem mt_cntF : MtR X "list.count" (rCntF X.K) := by
  intro pins s σ H x xs v us Q I rx rxs h
  obtain ⟨a, ys, y, rfl, rfl, hq, fy, fys, q⟩ := h
  cases rx
  cases rxs with
  | cons ry rt =>
    rename_i uy ut
    cases rt
    obtain ⟨its, rv, ⟨⟨cls, dd, data, sl⟩, n, ho, hc, hdn, hd⟩, hlen⟩ := I.list hq
    simp only at hc hd
    subst hc hd
    refine call_meets PySem.F.slot_list_count ⟨_, ho, rfl⟩ PySem.F.entry_list_count (PySem.F.args_list_count_2 _ _) (SeqAt.list_countAt a its.toArray n dd sl uy (eqU y)) ⟨ho, fun u' hu' => mem_eqAt ry fy rv fys u' (by simpa using hu'), ?_⟩
    refine ⟨.int (ys.countP fun z => eqV z y : Nat), H, I.tok _, ⟨s.toks, ?_⟩, q⟩
    show Value.int ((its.toArray.toList.countP (eqU y) : Nat) : Int) s.toks = Value.int ((ys.countP fun z => eqV z y : Nat) : Int) s.toks
    have e : its.toArray.toList.countP (eqU y) = ys.countP fun z => eqV z y := cnt_vals rv fys
    rw [e]
def cntD : D → List D → M D := fun x ys S => match x, ys with
  | .loc n, [y] => match S[n]? with
    | some (.lst ds) => match flat1 y, flats ds with
      | some v, some vs => .ok (.int (vs.countP fun z => eqV z v : Nat)) S
      | _, _ => .bad
    | _ => .bad
  | _, _ => .bad
def seekV (v : V) : List V → Option Nat
  | [] => none
  | z :: zs => if eqV z v = true then some 0 else (seekV v zs).map (· + 1)
theorem seekV_of {v : V} : ∀ {zs : List V} {j : Nat}, seekV v zs = some j → ∃ z, zs[j]? = some z ∧ eqV z v = true ∧ ∀ (m : Nat) (z' : V), m < j → zs[m]? = some z' → eqV z' v = false
  | [], _, h => by cases h
  | z :: zs, j, h => by
    unfold seekV at h
    by_cases e : eqV z v = true
    · rw [if_pos e] at h
      cases h
      exact ⟨z, rfl, e, fun m z' hm => absurd hm (Nat.not_lt_zero _)⟩
    · rw [if_neg e] at h
      cases e1 : seekV v zs with
      | none => rw [e1] at h; cases h
      | some k =>
        rw [e1] at h
        cases h
        obtain ⟨z2, h1, h2, h3⟩ := seekV_of e1
        refine ⟨z2, by simpa using h1, h2, fun m z' hm hz => ?_⟩
        cases m with
        | zero =>
          simp at hz
          subst hz
          exact Bool.eq_false_iff.mpr e
        | succ m => exact h3 m z' (Nat.lt_of_succ_lt_succ hm) (by simpa using hz)
def lidxD : D → List D → M D := fun x ys S => match x, ys with
  | .loc n, [y] => match S[n]? with
    | some (.lst ds) => match flat1 y, flats ds with
      | some v, some vs => match seekV v vs with
        | some j => .ok (.int (j : Nat)) S
        | none => .bad
      | _, _ => .bad
    | _ => .bad
  | _, _ => .bad
theorem o_cnt : OpM K (rCntF K) cntD := by
  intro W σ mu H S x xs v vs Q hS rx rxs hp
  unfold cntD at hp
  split at hp
  · rename_i n y
    split at hp
    · rename_i ds hn
      split at hp
      · rename_i w ws e1 e2
        cases rx with
        | loc hm =>
          cases rxs with
          | cons ry rt =>
            cases rt
            obtain ⟨o, ho, hm'⟩ := hS.obj hm
            rw [hn] at ho
            cases ho
            obtain ⟨us, h1, h2⟩ := hm'
            obtain ⟨rfl, f1⟩ := flat1_of ry e1
            obtain ⟨rfl, f2⟩ := flats_of h2 e2
            exact ⟨_, _, _, rfl, rfl, .inl (.inl h1), f1, f2, hp mu H Ext.refl hS _ (.int _)⟩
      · exact hp.elim
    · exact hp.elim
  · exact hp.elim
theorem o_lidx : OpM K (rIndex K) lidxD := by
  intro W σ mu H S x xs v vs Q hS rx rxs hp
  unfold lidxD at hp
  split at hp
  · rename_i n y
    split at hp
    · rename_i ds hn
      split at hp
      · rename_i w ws e1 e2
        split at hp
        · rename_i j e3
          cases rx with
          | loc hm =>
            cases rxs with
            | cons ry rt =>
              cases rt
              obtain ⟨o, ho, hm'⟩ := hS.obj hm
              rw [hn] at ho
              cases ho
              obtain ⟨us, h1, h2⟩ := hm'
              obtain ⟨rfl, f1⟩ := flat1_of ry e1
              obtain ⟨rfl, f2⟩ := flats_of h2 e2
              obtain ⟨z, z1, z2, z3⟩ := seekV_of e3
              exact ⟨_, _, _, j, z, rfl, rfl, .inl (.inl h1), f1, f2, z1, z2, z3, hp mu H Ext.refl hS _ (.int _)⟩
        · exact hp.elim
      · exact hp.elim
    · exact hp.elim
  · exact hp.elim
end
/-! ### a def that makes lambdas -/
theorem tab_code {K : PySem.W.Frag} {q : Str} {f c P : Addr} {oc : Value} {od : Option Addr} {fd : FuncData} {osl : Array (Option Value)} (h1 : PySem.W.nsIn K mainGlobals q = some (some (.ref f))) (h2 : K.lookup f = some ⟨oc, od, .func fd, osl⟩) (ht : PySem.W.tabIn K q = some (c, P)) : fd.code = .ref c := by
  unfold PySem.W.tabIn at ht
  rw [h1] at ht
  simp only [h2] at ht
  split at ht
  · rename_i c2 e
    split at ht
    · split at ht
      · cases ht
        exact e
      · cases ht
    · cases ht
  · cases ht
theorem fnG_mkL {P : Program} {w : World} {K : PySem.W.Frag} {mg : Str → Option Value} {base : Heap} {x qual : Str} {st : Stmt} {f c Pt : Addr} {fd : FuncData} {N ps : List Str} {k : Nat} {m : Env → Sto → Out} (Fu : FnX K x qual st f fd) (sc : FnScope N ps (defScope st)) (hns : PySem.W.nsIn K mainGlobals x = some (some (.ref f))) (hti : PySem.W.tabIn K x = some (c, Pt))
    (hb : ∀ (A : Around) (outer : List PySem.Env) (s : Shared) (H : Hp) (E : XK), Room k (A.deeper (envOfC qual (defScope st) s.heap.objs.size f (.ref c))) → A.guards = some [] →
      Takes (cxOf (L2.CX P w) P w K mg base N qual (defScope st) f (.ref c) A outer s H E) (WF E) → SB (cxOf (L2.CX P w) P w K mg base N qual (defScope st) f (.ref c) A outer s H E) (WF E) (defBody st) m) :
    FnG P w K mg base (k + 1) f fd ps (fnM N.length ps.length m) := by
  intro A outer s H ar us vs Q E hr hgd e0 hbi rv hl hpr
  obtain ⟨oc, od, dV, kV, doc, pm, an, cdv, ct, osl, rfl, lk, hcd⟩ := Fu.ex
  obtain rfl : cdv = .ref c := tab_code hns lk hti
  have kept : ∀ b o, base.get? b = some o → s.heap.get? b = some o := fun b o q => (e0.bs b o q).1
  have KX : K.In s.heap := e0.mod.kin.keeps kept
  have hkind : ∀ y ∈ ps.zip us, (defScope st).names.lookup y.1 = some .local ∨ ((defScope st).names.lookup y.1 = some .cell ∧ ((cellsFrom (s.heap.objs.size + 1) (defScope st).names []).lookup y.1).isSome = true) := by
    intro y hy
    rcases sc.par y.1 (List.of_mem_zip (a := y.1) (b := y.2) hy).1 with z | z
    · exact Or.inl z
    · exact Or.inr ⟨z, PySem.W.cellsFrom_some _ _ _ (.inl z)⟩
  refine codeAny_call_function hr.depth (KX _ _ lk) rfl sc.co sc.gen rfl (PySem.W.codeRec_of KX hcd) (hbi _ _ _ _ ?_)
  refine wpAny_newFunctionEnv_cells sc.kind hkind fun env he s1 inC => ?_
  subst he
  refine ⟨(e0.mod.nolimit.keeps kept).keeps inC.toInCall.keep, codeAny_func ?_⟩
  have I := inv_start (CX := L2.CX P w) (E := E) sc hr.hd e0 hl rv inC
  have B := hb A outer s H E (hr.deeper _) hgd (takes_of rfl rfl rfl rfl)
  obtain ⟨ds, mu, S, hS, hrs, hp⟩ := hpr
  refine wpAny_mono (B.run [] s1 (start N vs) H { nx := fun _ H' => Q .non H', rt := Q } I ?_) (fun fl s' hs => ?_) fun e s' hs => hs
  · refine ⟨_, mu, S, hS, erep_start _ hrs, ?_⟩
    rw [hl]
    have hl2 : ds.length = ps.length := by rw [← hrs.length]; exact hl
    unfold fnM at hp
    rw [if_pos hl2] at hp
    cases eo : m (ds.map some ++ List.replicate (N.length - ps.length) none) S with
    | nx r S' => rw [eo] at hp; exact fun m2 H2 σ2 e2 h2 _ => hp m2 H2 e2 h2 _ .non
    | rt d S' => rw [eo] at hp; exact fun m2 H2 v e2 h2 q2 => hp m2 H2 e2 h2 v q2
    | bk r S' => rw [eo] at hp; exact hp.elim
    | ct r S' => rw [eo] at hp; exact hp.elim
    | ex z r S' => rw [eo] at hp; exact fun m2 H2 σ2 c dd e2 h2 _ q2 => hp m2 H2 c dd e2 h2 q2
    | bad => rw [eo] at hp; exact hp
  · cases fl with
    | ret u =>
      obtain ⟨v, σ', H', J, r', q⟩ := hs
      exact ⟨v, H', J.os, J.bare, J.base, J.hok, r', q⟩
    | next =>
      obtain ⟨σ', H', J, q⟩ := hs
      exact ⟨V.non, H', J.os, J.bare, J.base, J.hok, rfl, q⟩
    | brk =>
      obtain ⟨_, _, _, z⟩ := hs
      exact z.elim
    | cont =>
      obtain ⟨_, _, _, z⟩ := hs
      exact z.elim
end Fa
namespace Fa
open PySem PySem.Spec PyProof.Rows L2 LamX
/-! ### the law's end, where defs make lambdas: their tables stand first in the store -/
theorem tabs_hrep {K : PySem.W.Frag} {H : Hp} {ts : List (Str × Addr × Addr)} (h1 : ∀ t ∈ ts, PySem.W.tabIn K t.1 = some t.2) (nd : (ts.map (·.2.2)).Nodup) (hH : ∀ t ∈ ts, H t.2.2 = some (.tbl #[])) : HRep K (ts.map (·.2.2)) H (ts.map fun t => .tab 0 t.1) := by
  refine ⟨by simp, nd, fun n o a e1 e2 => ?_⟩
  rw [List.getElem?_map] at e1 e2
  cases e : ts[n]? with
  | none => rw [e] at e1; cases e1
  | some t =>
    rw [e] at e1 e2
    cases e1
    cases e2
    have hm := List.mem_of_getElem? e
    exact ⟨⟨t.2.1, h1 t hm⟩, TabS.nil (hH t hm)⟩
theorem law_goT {P : Program} {w : World} {K : PySem.W.Frag} {mg mb : Str → Option Value} {k : Nat} {fa a : Addr} {fd : FuncData} {x : Str} {F : List D → M D} {s : Shared} {vs : List Value} {ns : List Int} {ts : List (Str × Addr × Addr)}
    (KX : K.In s.heap) (hns : s.heap.Ns mainGlobals mg) (hbn : s.heap.Ns builtinsNs mb) (hbb : ∀ y : Str, y ≠ "__name__" → mb y = bootBuiltins y) (hlim : s.heap.NoLimit) (hgen : s.gens = #[])
    (hbm : ∃ (bm : Addr) (ob : Obj), mg "__builtins__" = some (.ref bm) ∧ bm ≠ builtinsNs ∧ s.heap.get? bm = some ob ∧ ob.cls = .type "module" ∧ ob.dict = some builtinsNs ∧ ob.data = .plain)
    (t1 : ∀ t ∈ ts, PySem.W.tabIn K t.1 = some t.2) (t2 : (ts.map (·.2.2)).Nodup) (t3 : ∀ t ∈ ts, s.heap.get? t.2.2 = some { cls := .none, data := .fields #[] }) (t4 : ∀ t ∈ ts, K.lookup t.2.2 = none) (t5 : ∀ t ∈ ts, PySem.W.CodeHd s.heap t.2.1 t.2.2)
    (ha : s.heap.get? a = some { cls := .type "list", data := .seq vs.toArray }) (hi : IntsAre vs ns) (hlen : ns.length ≤ sizeLine) (hr : Room k callerA)
    (hF : ∀ base : Heap, K.In base → base.Ns mainGlobals mg → (∀ t ∈ ts, TabB base mg t.2.1 t.2.2) → FnG P w K mg base k fa fd [x] F) (hbi : ∀ (s : Shared) (u : Value), BindsTo s fd ⟨[u], []⟩ [(x, u)])
    (hG : ∃ S, F [.rls (ns.map D.int)] (ts.map fun t => .tab 0 t.1) = .ok (.bl true) S) :
    codeAny (model P w) callerA (.call (.ref fa) ⟨[.ref a], []⟩) (fun r s' => r = .ok (.ret (.bool true)) ∧ OldK s.heap s'.heap ∧ s'.os = s.os ∧ AllBare s'.gens) s := by
  have rv : Vals (ns.map V.int) vs := vals_ints hi
  have reps : ∀ (mu : List Addr) (H : Hp) (l : List Int), Reps K mu H (l.map V.int) (l.map D.int) := fun mu H l => by
    induction l with
    | nil => exact .nil
    | cons n l ih => exact .cons (.int n) ih
  have tT : ∀ b ∈ ts.map (·.2.2), s.heap.get? b = some { cls := .none, data := .fields #[] } := fun b hb => by
    obtain ⟨t, ht, rfl⟩ := List.mem_map.mp hb
    exact t3 t ht
  have aT : a ∉ ts.map (·.2.2) := fun z => by
    have q := tT a z
    rw [ha] at q
    have z' : Data.seq vs.toArray _ = Data.fields #[] := congrArg Obj.data (Option.some.inj q)
    cases z'
  have go : ∀ H : Hp, (∀ b, H b = none ∨ (b = a ∧ ∃ o xs, H b = some (.frz o (.lst xs))) ∨ (b ∈ ts.map (·.2.2) ∧ H b = some (.tbl #[]))) → SqR K H a (ns.map V.int) → HOk P w H s.heap → (∀ o, K.lookup a = some o → H a = none) → (∀ b ∈ ts.map (·.2.2), H b = some (.tbl #[])) →
      codeAny (model P w) callerA (.call (.ref fa) ⟨[.ref a], []⟩) (fun r s' => r = .ok (.ret (.bool true)) ∧ OldK s.heap s'.heap ∧ s'.os = s.os ∧ AllBare s'.gens) s := by
    intro H hO hS hok hK hT
    have free : ∀ {b : Addr} {o : Obj}, s.heap.get? b = some o → (∀ us n, o.data ≠ .seq us n) → o.data ≠ .fields #[] → H b = none := fun {b o} e n1 n2 => by
      rcases hO b with z | ⟨rfl, _⟩ | ⟨z, _⟩
      · exact z
      · rw [ha] at e
        cases e
        exact (n1 _ _ rfl).elim
      · rw [tT b z] at e
        cases e
        exact (n2 rfl).elim
    have nsK : ∀ {b : Addr} {m : Str → Option Value}, s.heap.Ns b m → (hidT s.heap H).Ns b m := fun {b m} n => by
      obtain ⟨o, es, ep, e, d, rest⟩ := n
      refine ⟨o, es, ep, hidT_get e (free e (fun us n z => ?_) fun z => ?_), d, rest⟩
      · rw [d] at z; cases z
      · rw [d] at z; cases z
    have kb : K.In (hidT s.heap H) := fun b o e => hidT_get (KX b o e) (by
      rcases hO b with z | ⟨rfl, _⟩ | ⟨z, _⟩
      · exact z
      · exact hK o e
      · obtain ⟨t, ht, rfl⟩ := List.mem_map.mp z
        rw [t4 t ht] at e
        cases e)
    have md : Mod K mg (hidT s.heap H) := by
      obtain ⟨mc, h1, h2⟩ := hlim
      exact ⟨kb, nsK hns, ⟨mb, nsK hbn, hbb⟩, ⟨mc, nsK h1, h2⟩⟩
    have TB : ∀ t ∈ ts, TabB (hidT s.heap H) mg t.2.1 t.2.2 := fun t ht => by
      have hTp := t3 t ht
      refine ⟨?_, ?_, fun z => ?_⟩
      · obtain ⟨o, us, file, tf, flags, tg, inF, text, tt, e1, r1, r2, r3, rr⟩ := t5 t ht
        refine ⟨o, us, file, tf, flags, tg, inF, text, tt, hidT_get e1 (free e1 (fun us n z => ?_) fun z => ?_), r1, r2, r3, rr⟩
        · rw [r2] at z; cases z
        · rw [r2] at z
          cases z
          simp at r3
      · obtain ⟨bm, ob, b1, b2, b3, b4, b5, b6⟩ := hbm
        have g1 : bm ≠ mainGlobals := fun q => by
          obtain ⟨o, es, ep, e, hd, _⟩ := hns
          rw [q, e] at b3
          cases b3
          rw [hd] at b6
          cases b6
        have g2 : bm ≠ t.2.2 := fun q => by
          rw [q, hTp] at b3
          cases b3
          cases b6
        refine ⟨bm, ob, b1, b2, g1, g2, hidT_get b3 (free b3 (fun us n z => ?_) fun z => ?_), b4, b5, b6⟩
        · rw [b6] at z; cases z
        · rw [b6] at z; cases z
      · obtain ⟨o, es, ep, e, hd, _⟩ := hns
        rw [z, hTp] at e
        cases e
        cases hd
    have e0 : Env0 P w K mg (hidT s.heap H) callerA [] s H := ⟨rfl, md, fun b o e => of_hidT e, Nat.le_of_eq (hidT_size _ _), trivial, fun b hb => absurd (show b ∈ ([] : List Addr) from hb) (by simp), hok, .of_eq hgen⟩
    obtain ⟨S, eS⟩ := hG
    have pr : prom K F [.ref a] H (fun v _ => v = .bl true) (fun _ _ _ => False) := by
      refine ⟨[.rls (ns.map D.int)], ts.map (·.2.2), _, tabs_hrep t1 t2 (fun t ht => hT _ (List.mem_map.mpr ⟨t, ht, rfl⟩)), .cons (.rls hS (reps _ H ns)) .nil, ?_⟩
      rw [eS]
      intro m2 H2 _ _ v q
      cases q
      rfl
    refine codeAny_mono (hF _ kb (nsK hns) TB callerA [] s H ⟨[.ref a], []⟩ [.ref a] [.ref a] _ _ hr rfl e0 (hbi s (.ref a)) (.cons rfl .nil) rfl pr) fun res s' h => ?_
    cases res with
    | error e =>
      obtain ⟨_, _, _, _, _, _, _, _, _, _, _, _, z⟩ := h
      exact z.elim
    | ok fl =>
      cases fl with
      | ret u =>
        obtain ⟨v, H', os, bare, un, hok', r', q⟩ := h
        obtain rfl : v = .bl true := q
        cases r'
        have key : ∀ b o, b ∉ ts.map (·.2.2) → s.heap.get? b = some o → s'.heap.get? b = some o := fun b o nb e => by
          rcases hO b with z | ⟨_, ob, xs, z⟩ | ⟨z, _⟩
          · exact un.keep b o e z (fun y => absurd (show b ∈ ([] : List Addr) from y) (by simp)) (by simp)
          · have z2 := (hok' b _ (un.frzs b ob _ z)).1
            have z1 := (hok b _ z).1
            rw [e] at z1
            cases z1
            exact z2
          · exact absurd z nb
        have grown : ∀ t ∈ ts, ∃ more : Array Value, s'.heap.get? t.2.2 = some { cls := .none, data := .fields more } := fun t ht => by
          obtain ⟨more, z⟩ := un.tbls t.2.2 #[] (hT _ (List.mem_map.mpr ⟨t, ht, rfl⟩))
          exact ⟨_, hok' t.2.2 _ z⟩
        refine ⟨rfl, ⟨fun b o e => ?_, fun b o e => ?_⟩, os, bare⟩
        · by_cases hb : b ∈ ts.map (·.2.2)
          · obtain ⟨t, ht, rfl⟩ := List.mem_map.mp hb
            obtain ⟨more, hm⟩ := grown t ht
            rw [t3 t ht] at e
            cases e
            exact .inr (.inl ⟨((t5 t ht).tab (t3 t ht)).isCodeTable, rfl, #[], more, rfl, by rw [Array.empty_append]; exact hm⟩)
          · exact .inl (key b o hb e)
        · by_cases hb : b ∈ ts.map (·.2.2)
          · obtain ⟨t, ht, rfl⟩ := List.mem_map.mp hb
            obtain ⟨more, hm⟩ := grown t ht
            exact ⟨_, hm⟩
          · exact ⟨o, key b o hb e⟩
      | _ => exact False.elim h
  cases hk : K.lookup a with
  | some o =>
    have e := KX a o hk
    rw [ha] at e
    cases e
    refine go (fun b => if b ∈ ts.map (·.2.2) then some (.tbl #[]) else none) (fun b => ?_) (.inr ⟨_, vs.toArray, _, hk, rfl, rfl, rfl, by rw [List.size_toArray, hi.length]; exact hlen, rv⟩) (fun b u z => ?_) (fun _ _ => if_neg aT) fun b hb => if_pos hb
    · by_cases hb : b ∈ ts.map (·.2.2)
      · exact .inr (.inr ⟨hb, if_pos hb⟩)
      · exact .inl (if_neg hb)
    · by_cases hb : b ∈ ts.map (·.2.2)
      · have z' := (if_pos hb).symm.trans z
        cases z'
        exact tT b hb
      · have z' := (if_neg hb).symm.trans z
        cases z'
  | none =>
    refine go (upd (fun b => if b ∈ ts.map (·.2.2) then some (.tbl #[]) else none) a (.frz { cls := .type "list", data := .seq vs.toArray } (.lst (ns.map V.int)))) (fun b => ?_) (.inl ⟨_, upd_same⟩) (fun b u z => ?_) (fun o e => absurd (hk.symm.trans e) (by simp)) fun b hb => ?_
    · by_cases hb : b = a
      · subst hb
        exact .inr (.inl ⟨rfl, _, _, upd_same⟩)
      · rw [upd_ne hb]
        by_cases hb2 : b ∈ ts.map (·.2.2)
        · exact .inr (.inr ⟨hb2, if_pos hb2⟩)
        · exact .inl (if_neg hb2)
    · by_cases hb : b = a
      · subst hb
        rw [upd_same] at z
        cases z
        exact ⟨ha, by rw [List.length_map]; exact hlen, vs, _, rv, ha⟩
      · rw [upd_ne hb] at z
        by_cases hb2 : b ∈ ts.map (·.2.2)
        · have z' := (if_pos hb2).symm.trans z
          cases z'
          exact tT b hb2
        · have z' := (if_neg hb2).symm.trans z
          cases z'
    · rw [upd_ne (fun e => aT (by rw [← e]; exact hb))]
      exact if_pos hb
theorem law_walkT {l : PySem.W.OpenLaw} {n k : Nat} {q : Program} {loose : List Str} {XP : (Str → Option Value) → Heap → Prop} {YP : World → Heap → Prop} {d : DefRec} {K : Params → PySem.W.Frag} {x : Str} {qs : List Str}
    (hn : l.most = some n) (hn2 : n ≤ sizeLine) (hdf : d.params.defaults = []) (hr : Room k callerA) (hY : ∀ (w : World) (h : Heap), YP w h → (K w.params).In h) (hrec : ∀ y ∈ qs, ∃ e, (recsOf q).find? (fun e => e.name == y) = some e)
    (hF : ∀ (w : World) (mg : Str → Option Value) (fa : Addr) (h : Heap), (K w.params).In h → h.Ns mainGlobals mg → mg d.name = some (.ref fa) →
      ∃ (fd : FuncData) (F : List D → M D) (ts : List (Str × Addr × Addr)), (∀ (s : Shared) (u : Value), BindsTo s fd ⟨[u], []⟩ [(x, u)]) ∧ ts.map (·.1) = qs ∧ (∀ t ∈ ts, PySem.W.tabIn (K w.params) t.1 = some t.2) ∧ (ts.map (·.2.2)).Nodup ∧ (∀ t ∈ ts, (K w.params).lookup t.2.2 = none) ∧
        (∀ ns : List Int, ns.length ≤ n → ∃ S, F [.rls (ns.map D.int)] (ts.map fun t => .tab 0 t.1) = .ok (.bl true) S) ∧
        ∀ base : Heap, (K w.params).In base → base.Ns mainGlobals mg → (∀ t ∈ ts, TabB base mg t.2.1 t.2.2) → FnG l.prog w (K w.params) mg base k fa fd [x] F) :
    PySem.W.WalkO q loose XP YP l.row.toRowW d [] (fun f vs => PySem.call f vs) := by
  refine Att.attach_call hn hdf fun w s0 s1 mg mb fa o pm cd doc a vs ns G Y ho hd hcd hmg hobj hints hlen hg => ?_
  obtain ⟨fd, F, ts, hb, hq, h1, h2, h3, hG, hf⟩ := hF w mg fa _ (hY w _ Y) G.T.g hmg
  have tt : ∀ t ∈ ts, PySem.W.CodeHd s1.heap t.2.1 t.2.2 ∧ s1.heap.get? t.2.2 = some { cls := .none, data := .fields #[] } := fun t ht => by
    obtain ⟨e, he⟩ := hrec t.1 (by rw [← hq]; exact List.mem_map_of_mem ht)
    exact PySem.W.tab_of G.T (hY w _ Y) he (h1 t ht)
  exact law_goT (hY w _ Y) G.T.g G.T.b G.T.builtins G.T.nolimit hg G.T.bmain h1 h2 (fun t ht => (tt t ht).2) h3 (fun t ht => (tt t ht).1) hobj hints (Nat.le_trans hlen hn2) hr hf hb (hG ns hlen)
end Fa
namespace Fa
open PySem PySem.Spec PyProof.Rows L2 LamX
/-! ### facts of the written part -/
theorem tabIn_of {K : PySem.W.Frag} {x : Str} {f c P : Addr} {oc ccl : Value} {od cdd : Option Addr} {fd : FuncData} {osl ccs : Array (Option Value)} {vs : Array Value} (h1 : PySem.W.nsIn K mainGlobals x = some (some (.ref f))) (h2 : K.lookup f = some ⟨oc, od, .func fd, osl⟩) (h3 : fd.code = .ref c)
    (h4 : K.lookup c = some ⟨ccl, cdd, .fields vs, ccs⟩) (h5 : vs[11]? = some (.ref P)) : PySem.W.tabIn K x = some (c, P) := by
  unfold PySem.W.tabIn
  rw [h1]
  simp only [h2, h3, h4, h5]
theorem herr_of {K : PySem.W.Frag} {CF : Addr} {errs : List Str} (h : ∀ cn ∈ errs, ∃ C, ClsAt K cn C ∧ PySem.W.exmOne K (.ref C) (.ref CF) = some true) : ∀ cn ∈ errs, ∀ C, ClsAt K cn C → PySem.W.exmOne K (.ref C) (.ref CF) = some true := fun cn hc C hC => by
  obtain ⟨C', h1, h2⟩ := h cn hc
  rw [hC.uniq h1]
  exact h2
theorem lookup_in {α : Type} {a : Str} : ∀ {l : List (Str × α)} {v : α}, l.lookup a = some v → (a, v) ∈ l
  | (k, w) :: l, v, h => by
    rw [List.lookup_cons] at h
    split at h
    · rename_i e
      cases h
      rw [beq_iff_eq.mp e]
      exact List.mem_cons_self
    · exact List.mem_cons_of_mem _ (lookup_in h)
theorem isx_of {K : PySem.W.Frag} {cv : Value} {l : List (Str × Bool)} (h : ∀ p ∈ l, ∃ C, ClsAt K p.1 C ∧ ExcC K C ∧ PySem.W.kitOne K (.ref C) cv = some p.2) : ∀ cn b, l.lookup cn = some b → ∀ C, ClsAt K cn C → ExcC K C ∧ PySem.W.kitOne K (.ref C) cv = some b := fun cn b hl C hC => by
  obtain ⟨C', h1, h2, h3⟩ := h (cn, b) (lookup_in hl)
  rw [hC.uniq h1]
  exact ⟨h2, h3⟩
theorem xf_of {K : PySem.W.Frag} {f : Str} {errs : List Str} (h : ∀ cn ∈ errs, ∃ C, ClsAt K cn C ∧ XfC K C ∧ PySem.W.findIn K (.ref C) f = some none) : ∀ cn ∈ errs, ∀ C, ClsAt K cn C → XfC K C ∧ PySem.W.findIn K (.ref C) f = some none := fun cn hc C hC => by
  obtain ⟨C', h1, h2⟩ := h cn hc
  rw [hC.uniq h1]
  exact h2
theorem kit_same {K : PySem.W.Frag} {C : Addr} : PySem.W.kitOne K (.ref C) (.ref C) = some true := by
  unfold PySem.W.kitOne
  rw [if_pos (beq_self_eq_true _)]
theorem kit_sub {K : PySem.W.Frag} {C C' : Addr} {b : Bool} (hn : (Value.ref C == Value.ref C') = false) (hd : PySem.W.hasDictIn K C' = true) (ht : PySem.W.typeIn K (.ref C') = some (.type "type")) (hs : PySem.W.subIn K (.ref C) (.ref C') = some b) : PySem.W.kitOne K (.ref C) (.ref C') = some b := by
  obtain ⟨cd, hc, _⟩ := PySem.W.any_some hd
  unfold PySem.W.kitOne
  rw [hn, if_neg Bool.false_ne_true]
  show (if ((PySem.W.clsIn K C').isSome && PySem.W.typeIn K (.ref C') == some (.type "type")) = true then PySem.W.subIn K (.ref C) (.ref C') else none) = some b
  rw [hc, ht]
  exact hs
theorem kit_ty {K : PySem.W.Frag} {C : Addr} {T : String} {b : Bool} (hm : PySem.W.kitMeta T = true) (hs : PySem.W.subIn K (.ref C) (.type T) = some b) : PySem.W.kitOne K (.ref C) (.type T) = some b := by
  unfold PySem.W.kitOne
  rw [show (Value.ref C == Value.type T) = false from rfl, if_neg Bool.false_ne_true]
  show (if PySem.W.kitMeta T = true then PySem.W.subIn K (.ref C) (.type T) else none) = some b
  rw [if_pos hm]
  exact hs
end Fa
namespace Fa
open PySem PySem.Spec PyProof.Rows L2 LamX
/-! ### repr of data with dicts: the dicts alone must not be sys.modules -/
mutual
inductive RdN (h : Heap) : Value → PyData → Prop
  | none : RdN h .none .none
  | bool (b : Bool) : RdN h (.bool b) (.bool b)
  | int (i : Int) (t : Tok) : RdN h (.int i t) (.int i)
  | str (x : Str) (t : Tok) : RdN h (.str x t) (.str x)
  | list {a : Addr} {o : Obj} {vs : Array Value} {n : Nat} {xs : List PyData} : h.get? a = some o → o.cls = .type "list" → o.data = .seq vs n → RdNs h vs.toList xs → RdN h (.ref a) (.list xs)
  | tuple {a : Addr} {o : Obj} {vs : Array Value} {n : Nat} {xs : List PyData} : h.get? a = some o → o.cls = .type "tuple" → o.data = .seq vs n → RdNs h vs.toList xs → RdN h (.ref a) (.tuple xs)
  | dict {a : Addr} {o : Obj} {es : Array DictEntry} {n : Nat} {kvs : List (PyData × PyData)} : h.get? a = some o → o.cls = .type "dict" → o.data = .dict es n → (a == sysModules) = false → RdNs h (es.toList.map (·.key)) (kvs.map (·.1)) → RdNs h (es.toList.map (·.val)) (kvs.map (·.2)) → RdN h (.ref a) (.dict kvs)
inductive RdNs (h : Heap) : List Value → List PyData → Prop
  | nil : RdNs h [] []
  | cons {v : Value} {vs : List Value} {d : PyData} {ds : List PyData} : RdN h v d → RdNs h vs ds → RdNs h (v :: vs) (d :: ds)
end
mutual
theorem RdN.reads {h : Heap} : ∀ {v : Value} {d : PyData}, RdN h v d → ∃ as, Reads h v d as
  | _, _, .none => ⟨_, .none⟩
  | _, _, .bool b => ⟨_, .bool b⟩
  | _, _, .int i t => ⟨_, .int i t⟩
  | _, _, .str x t => ⟨_, .str x t⟩
  | _, _, .list h1 h2 h3 h4 => let ⟨_, r⟩ := RdNs.reads h4; ⟨_, .list h1 h2 h3 r⟩
  | _, _, .tuple h1 h2 h3 h4 => let ⟨_, r⟩ := RdNs.reads h4; ⟨_, .tuple h1 h2 h3 r⟩
  | _, _, .dict h1 h2 h3 _ h4 h5 => let ⟨_, r⟩ := RdNs.reads h4; let ⟨_, q⟩ := RdNs.reads h5; ⟨_, .dict h1 h2 h3 r q⟩
theorem RdNs.reads {h : Heap} : ∀ {vs : List Value} {ds : List PyData}, RdNs h vs ds → ∃ as, ReadsAll h vs ds as
  | _, _, .nil => ⟨_, .nil⟩
  | _, _, .cons r t => let ⟨_, r1⟩ := RdN.reads r; let ⟨_, r2⟩ := RdNs.reads t; ⟨_, .cons r1 r2⟩
end
section
variable {prog : Program} {w : World} {h : Heap}
mutual
theorem RdN.shows : ∀ {v : Value} {d : PyData}, RdN h v d → d.showable = true → d.shown.length ≤ sizeLine → ∃ bs, ReadAtMost h d.depth bs ∧ ReprK prog w bs h d.depth v d.shown
  | _, _, .none, _, _ => ⟨[], (fun _ z => nomatch z), by simp only [PyData.shown]; exact .of_is ReprIs.none _ _ _⟩
  | _, _, .bool b, _, _ => ⟨[], (fun _ z => nomatch z), by simp only [PyData.shown]; exact .of_is (ReprIs.bool b) _ _ _⟩
  | _, _, .int i t, sh, _ => ⟨[], (fun _ z => nomatch z), by simp only [PyData.shown]; exact .of_is (ReprIs.int t (by simpa [PyData.showable] using sh)) _ _ _⟩
  | _, _, .str x t, _, sz => ⟨[], (fun _ z => nomatch z), by simp only [PyData.shown]; exact .of_is (ReprIs.str x t (by simpa only [PyData.shown] using sz)) _ _ _⟩
  | _, _, .list (a := a) (vs := vs) (xs := xs) h1 h2 h3 h4, sh, sz => by
    have sz2 : (listText (PyData.shownAll xs)).length ≤ sizeLine := by simpa only [PyData.shown] using sz
    obtain ⟨bs, hb, hk⟩ := RdNs.shows h4 (by simpa [PyData.showable] using sh) fun t ht => Nat.le_trans (listText_mem_le ht) sz2
    obtain ⟨_, rd⟩ := RdN.reads (.list h1 h2 h3 h4)
    have na : a ∉ bs := not_mem_of_deeper rd (by simp only [PyData.depth]; omega) hb
    refine ⟨a :: bs, ReadAtMost.cons rd (by simp only [PyData.depth]; omega) hb, ?_⟩
    simp only [PyData.depth, PyData.shown]
    obtain ⟨l⟩ := vs
    cases l with
    | nil =>
      have h5 : RdNs h [] xs := h4
      cases h5
      simp only [PyData.shownAll, listText_nil]
      exact ReprK.listEmpty h1 h2 h3
    | cons x l => exact ReprK.list h1 h2 h3 na (by simpa using hk.length_eq) (fun i y e => hk.item i y (by simpa using e))
  | _, _, .tuple (a := a) (xs := xs) h1 h2 h3 h4, sh, sz => by
    have sz2 : (tupleText (PyData.shownAll xs)).length ≤ sizeLine := by simpa only [PyData.shown] using sz
    obtain ⟨bs, hb, hk⟩ := RdNs.shows h4 (by simpa [PyData.showable] using sh) fun t ht => Nat.le_trans (tupleText_mem_le ht) sz2
    obtain ⟨_, rd⟩ := RdN.reads (.tuple h1 h2 h3 h4)
    have na : a ∉ bs := not_mem_of_deeper rd (by simp only [PyData.depth]; omega) hb
    refine ⟨a :: bs, ReadAtMost.cons rd (by simp only [PyData.depth]; omega) hb, ?_⟩
    simp only [PyData.depth, PyData.shown]
    exact ReprK.tuple h1 h2 h3 na hk
  | _, _, .dict (a := a) (es := es) (kvs := kvs) h1 h2 h3 ns h4 h5, sh, sz => by
    have sz2 : (dictText (PyData.shownKv kvs)).length ≤ sizeLine := by simpa only [PyData.shown] using sz
    obtain ⟨s1, s2⟩ := PyData.showableKv_split kvs (by simpa [PyData.showable] using sh)
    obtain ⟨b1, hb1, k1⟩ := RdNs.shows h4 s1 fun t ht => by
      obtain ⟨p, hp, hl⟩ := PyData.shownKv_key_le kvs t ht
      exact Nat.le_trans hl (Nat.le_trans (dictText_mem_le hp) sz2)
    obtain ⟨b2, hb2, k2⟩ := RdNs.shows h5 s2 fun t ht => by
      obtain ⟨p, hp, hl⟩ := PyData.shownKv_val_le kvs t ht
      exact Nat.le_trans hl (Nat.le_trans (dictText_mem_le hp) sz2)
    obtain ⟨_, rd⟩ := RdN.reads (.dict h1 h2 h3 ns h4 h5)
    have hb : ReadAtMost h (PyData.depthKv kvs) (b1 ++ b2) := (hb1.mono (PyData.depthAll_keys_le kvs)).append (hb2.mono (PyData.depthAll_vals_le kvs))
    have na : a ∉ b1 ++ b2 := not_mem_of_deeper rd (by simp only [PyData.depth]; omega) hb
    refine ⟨a :: (b1 ++ b2), ReadAtMost.cons rd (by simp only [PyData.depth]; omega) hb, ?_⟩
    simp only [PyData.depth, PyData.shown, PyData.shownKv_eq]
    exact ReprK.dict h1 h2 h3 ns na (ReprEntriesK.of_two es.toList _ _ (k1.more_le (fun b z => List.mem_append_left _ z) (PyData.depthAll_keys_le kvs)) (k2.more_le (fun b z => List.mem_append_right _ z) (PyData.depthAll_vals_le kvs)))
theorem RdNs.shows : ∀ {vs : List Value} {ds : List PyData}, RdNs h vs ds → PyData.showableAll ds = true → (∀ t ∈ PyData.shownAll ds, t.length ≤ sizeLine) → ∃ bs, ReadAtMost h (PyData.depthAll ds) bs ∧ ReprAllK prog w bs h (PyData.depthAll ds) vs (PyData.shownAll ds)
  | _, _, .nil, _, _ => ⟨[], (fun _ z => nomatch z), by simp only [PyData.shownAll]; exact .nil⟩
  | _, _, .cons (d := d) (ds := ds) r t, sh, sz => by
    have sh2 : d.showable = true ∧ PyData.showableAll ds = true := by simpa [PyData.showableAll] using sh
    obtain ⟨b1, hb1, k1⟩ := RdN.shows r sh2.1 (sz _ (by simp only [PyData.shownAll]; exact List.mem_cons_self ..))
    obtain ⟨b2, hb2, k2⟩ := RdNs.shows t sh2.2 fun u hu => sz u (by simp only [PyData.shownAll]; exact List.mem_cons_of_mem _ hu)
    refine ⟨b1 ++ b2, fun b hm => ?_, ?_⟩
    · simp only [PyData.depthAll]
      rcases List.mem_append.mp hm with hm | hm
      · obtain ⟨d', as', r', hd'⟩ := hb1 b hm
        exact ⟨d', as', r', Nat.le_trans hd' (Nat.le_max_left _ _)⟩
      · obtain ⟨d', as', r', hd'⟩ := hb2 b hm
        exact ⟨d', as', r', Nat.le_trans hd' (Nat.le_max_right _ _)⟩
    · simp only [PyData.depthAll, PyData.shownAll]
      exact .cons ((k1.more fun b z => List.mem_append_left _ z).level_le (Nat.le_max_left _ _)) (k2.more_le (fun b z => List.mem_append_right _ z) (Nat.le_max_right _ _))
end
/-- repr(x) of an object -/
theorem repr_rdn {A : Around} {E : Value → Shared → Prop} {s : Shared} {Q : Value → Shared → Prop} {a : Addr} {d : PyData} (r : RdN s.heap (.ref a) d) (sh : d.showable = true) (sz : d.shown.length ≤ sizeLine) (hg : A.guards = some []) (hu : A.units + (d.depth + 1) < cLine)
    (hQ : ∀ h' u tk, (∀ b o, s.heap.get? b = some o → h'.get? b = some o) → Q (.str d.shown u) { s with heap := h', toks := tk }) : wpAny (model prog w) A (call (.builtin "repr") [.ref a]) Q E s := by
  obtain ⟨T, idr, S⟩ : ∃ T idr, ShowsBy prog w s.heap a d T idr := by
    cases r with
    | list h1 h2 h3 h4 =>
      rename_i o vs n xs
      have sz2 : (listText (PyData.shownAll xs)).length ≤ sizeLine := by simpa only [PyData.shown] using sz
      obtain ⟨bs, hb, hk⟩ := RdNs.shows (prog := prog) (w := w) h4 (by simpa [PyData.showable] using sh) fun t ht => Nat.le_trans (listText_mem_le ht) sz2
      obtain ⟨_, rd⟩ := RdN.reads (.list h1 h2 h3 h4)
      have na : a ∉ bs := not_mem_of_deeper rd (by simp only [PyData.depth]; omega) hb
      refine ⟨"list", "list.__repr__", F.slot_list_repr.toG, F.slot_list_str, F.slot_list_format, fun s hk0 => ⟨o, hk0 _ _ h1, h2⟩, fun A E s Q hg hu hk0 hQ => ?_⟩
      simp only [PyData.depth] at hu
      simp only [PyData.shown] at hQ
      obtain ⟨l⟩ := vs
      cases l with
      | nil =>
        have h5 : RdNs _ [] xs := h4
        cases h5
        simp only [PyData.shownAll, listText_nil] at hQ
        exact call_list_repr_empty ⟨o, hk0 _ _ h1, h2⟩ (hk0 _ _ h1) h3 (hQ s.heap _ _ fun _ _ e => e)
      | cons x l => exact call_list_reprK h1 h2 h3 na (by simpa using hk.length_eq) (fun i y e => hk.item i y (by simpa using e)) hg (fun b _ => Clear.nil b) hu hk0 hQ sz2
    | tuple h1 h2 h3 h4 =>
      rename_i o vs n xs
      have sz2 : (tupleText (PyData.shownAll xs)).length ≤ sizeLine := by simpa only [PyData.shown] using sz
      obtain ⟨bs, hb, hk⟩ := RdNs.shows (prog := prog) (w := w) h4 (by simpa [PyData.showable] using sh) fun t ht => Nat.le_trans (tupleText_mem_le ht) sz2
      obtain ⟨_, rd⟩ := RdN.reads (.tuple h1 h2 h3 h4)
      have na : a ∉ bs := not_mem_of_deeper rd (by simp only [PyData.depth]; omega) hb
      refine ⟨"tuple", "tuple.__repr__", F.slot_tuple_repr, F.slot_tuple_str, F.slot_tuple_format, fun s hk0 => ⟨o, hk0 _ _ h1, h2⟩, fun A E s Q hg hu hk0 hQ => ?_⟩
      simp only [PyData.depth] at hu
      simp only [PyData.shown] at hQ
      exact call_tuple_reprK h1 h2 h3 na hk hg (fun b _ => Clear.nil b) hu hk0 hQ sz2
    | dict h1 h2 h3 ns h4 h5 =>
      rename_i o es n kvs
      have sz2 : (dictText (PyData.shownKv kvs)).length ≤ sizeLine := by simpa only [PyData.shown] using sz
      obtain ⟨s1, s2⟩ := PyData.showableKv_split kvs (by simpa [PyData.showable] using sh)
      obtain ⟨b1, hb1, k1⟩ := RdNs.shows (prog := prog) (w := w) h4 s1 fun t ht => by
        obtain ⟨p, hp, hl⟩ := PyData.shownKv_key_le kvs t ht
        exact Nat.le_trans hl (Nat.le_trans (dictText_mem_le hp) sz2)
      obtain ⟨b2, hb2, k2⟩ := RdNs.shows (prog := prog) (w := w) h5 s2 fun t ht => by
        obtain ⟨p, hp, hl⟩ := PyData.shownKv_val_le kvs t ht
        exact Nat.le_trans hl (Nat.le_trans (dictText_mem_le hp) sz2)
      obtain ⟨_, rd⟩ := RdN.reads (.dict h1 h2 h3 ns h4 h5)
      have hb : ReadAtMost s.heap (PyData.depthKv kvs) (b1 ++ b2) := (hb1.mono (PyData.depthAll_keys_le kvs)).append (hb2.mono (PyData.depthAll_vals_le kvs))
      have na : a ∉ b1 ++ b2 := not_mem_of_deeper rd (by simp only [PyData.depth]; omega) hb
      refine ⟨"dict", "dict.__repr__", F.slot_dict_repr, F.slot_dict_str, F.slot_dict_format, fun s hk0 => ⟨o, hk0 _ _ h1, h2⟩, fun A E s Q hg hu hk0 hQ => ?_⟩
      simp only [PyData.depth] at hu
      simp only [PyData.shown, PyData.shownKv_eq] at hQ
      exact call_dict_reprK h1 h2 h3 ns na (ReprEntriesK.of_two es.toList _ _ (k1.more_le (fun b z => List.mem_append_left _ z) (PyData.depthAll_keys_le kvs)) (k2.more_le (fun b z => List.mem_append_right _ z) (PyData.depthAll_vals_le kvs))) hg (fun b _ => Clear.nil b) hu hk0 hQ (by rw [← PyData.shownKv_eq]; exact sz2)
  exact call_repr_slot (by omega) (S.typeIs s fun _ _ e => e) S.slotRepr (S.call A.in1 E s _ hg (by show A.units + 1 + d.depth < cLine; omega) (fun _ _ e => e) fun h' u tk hk => ⟨_, _, rfl, hQ h' u tk hk⟩)
end
end Fa
namespace Fa
open PySem PySem.Spec PyProof.Rows L2 LamX
def keyPD : Key → PyData
  | .inl i => .int i
  | .inr x => .str x
mutual
inductive DpX (K : PySem.W.Frag) (H : Hp) : V → PyData → Prop
  | non : DpX K H .non .none
  | bl (b : Bool) : DpX K H (.bl b) (.bool b)
  | int (i : Int) : DpX K H (.int i) (.int i)
  | str (x : Str) : DpX K H (.str x) (.str x)
  | lst {a : Addr} {xs : List V} {ds : List PyData} : SqL K H a xs → DpXs K H xs ds → DpX K H (.ref a) (.list ds)
  | tup {a : Addr} {xs : List V} {ds : List PyData} : SqT K H a xs → DpXs K H xs ds → DpX K H (.ref a) (.tuple ds)
  | dct {a : Addr} {kvs : List (Key × V)} {ws : List V} {ps : List PyData} : H a = some (.dK kvs) → ws = kvs.map (·.2) → DpXs K H ws ps → DpX K H (.ref a) (.dict ((kvs.map fun p => keyPD p.1).zip ps))
inductive DpXs (K : PySem.W.Frag) (H : Hp) : List V → List PyData → Prop
  | nil : DpXs K H [] []
  | cons {v : V} {vs : List V} {d : PyData} {ds : List PyData} : DpX K H v d → DpXs K H vs ds → DpXs K H (v :: vs) (d :: ds)
end
theorem DpXs.length {K : PySem.W.Frag} {H : Hp} : ∀ {vs : List V} {ds : List PyData}, DpXs K H vs ds → vs.length = ds.length
  | _, _, .nil => rfl
  | _, _, .cons _ t => by simp [DpXs.length t]
theorem zip_fst' {α β : Type} : ∀ {xs : List α} {ys : List β}, xs.length = ys.length → (xs.zip ys).map (·.1) = xs
  | [], [], _ => rfl
  | x :: xs, y :: ys, h => by rw [List.zip_cons_cons, List.map_cons, zip_fst' (by simpa using h)]
theorem zip_snd' {α β : Type} : ∀ {xs : List α} {ys : List β}, xs.length = ys.length → (xs.zip ys).map (·.2) = ys
  | [], [], _ => rfl
  | x :: xs, y :: ys, h => by rw [List.zip_cons_cons, List.map_cons, zip_snd' (by simpa using h)]
theorem kv_vals {κ : Type} : ∀ {kvs : List (κ × V)} {us : List (κ × Value)}, KV kvs us → Vals (kvs.map (·.2)) (us.map (·.2)) ∧ kvs.map (·.1) = us.map (·.1)
  | _, _, .nil => ⟨.nil, rfl⟩
  | _, _, .cons h t => by
    obtain ⟨h1, h2⟩ := kv_vals t
    exact ⟨.cons h.2 h1, by rw [List.map_cons, List.map_cons, h2, h.1]⟩
theorem pairs_keys {P : Program} {w : World} {h : Heap} : ∀ {es : List DictEntry} {us : List (Key × Value)}, Pairs (mixKind P w) es us → RdNs h (es.map (·.key)) ((us.map (·.1)).map keyPD) ∧ es.map (·.val) = us.map (·.2)
  | _, _, .nil => ⟨.nil, rfl⟩
  | _, _, .cons (e := e) (kv := kv) h1 h2 t => by
    obtain ⟨q1, q2⟩ := pairs_keys (h := h) t
    refine ⟨.cons ?_ q1, by rw [List.map_cons, List.map_cons, q2, h2]⟩
    obtain ⟨k, v⟩ := kv
    rcases keyIs_shape (k := k) h1 with ⟨i, t, e1, e2⟩ | ⟨x, t, e1, e2⟩
    · try simp only at e1
      subst e1
      show RdN h e.key (.int i)
      rw [e2]
      exact .int i t
    · try simp only at e1
      subst e1
      show RdN h e.key (.str x)
      rw [e2]
      exact .str x t
section
variable {X : Cx} {pins : List (Addr × Obj)} {σ : L2.St} {H : Hp} {s : Shared}
mutual
theorem DpX.rd (I : Inv X pins σ H s) : ∀ {v : V} {d : PyData} {u : Value}, DpX X.K H v d → RelV v u → RdN s.heap u d
  | _, _, _, .non, r => by cases r; exact .none
  | _, _, _, .bl b, r => by cases r; exact .bool b
  | _, _, _, .int i, r => by obtain ⟨t, rfl⟩ := r; exact .int i t
  | _, _, _, .str x, r => by obtain ⟨t, rfl⟩ := r; exact .str x t
  | _, _, _, .lst hq h, r => by
    cases r
    obtain ⟨its, rv, ⟨o, n, ho, hc, _, hd⟩, _⟩ := I.list hq
    exact .list ho hc hd (DpXs.rd I h rv)
  | _, _, _, .tup hq h, r => by
    cases r
    obtain ⟨its, rv, ⟨o, ho, hc, n, hd⟩, _⟩ := I.tuple hq
    exact .tuple ho hc hd (DpXs.rd I h rv)
  | _, _, _, .dct (kvs := kvs) (ps := ps) hq hw h, r => by
    cases r
    obtain ⟨_, ns, us, kv, o, es, ep, ho, hx, hd, _, hp, _⟩ := I.hok _ _ hq
    obtain ⟨k1, k2⟩ := pairs_keys (h := s.heap) hp
    obtain ⟨v1, v2⟩ := kv_vals kv
    have hl : (kvs.map fun p => keyPD p.1).length = ps.length := by
      have := DpXs.length h
      rw [hw, List.length_map] at this
      rw [List.length_map]
      exact this
    refine .dict ho hx.1 hd ns ?_ ?_
    · rw [zip_fst' hl]
      have e : (kvs.map fun p => keyPD p.1) = (us.map (·.1)).map keyPD := by
        rw [← v2, List.map_map]
        rfl
      rw [e]
      exact k1
    · rw [zip_snd' hl, k2]
      rw [← hw] at v1
      exact DpXs.rd I h v1
theorem DpXs.rd (I : Inv X pins σ H s) : ∀ {vs : List V} {ds : List PyData} {us : List Value}, DpXs X.K H vs ds → Vals vs us → RdNs s.heap us ds
  | _, _, _, .nil, .nil => .nil
  | _, _, _, .cons h t, .cons r rs => .cons (DpX.rd I h r) (DpXs.rd I t rs)
end
end
/-! ### in the store -/
def snapX (S : Sto) : Nat → D → Option PyData
  | 0, _ => none
  | n + 1, d => match d with
    | .non => some .none
    | .bl b => some (.bool b)
    | .int i => some (.int i)
    | .str x => some (.str x)
    | .tup ds => (snapL (snapX S n) ds).map .tuple
    | .ktp ds => (snapL (snapX S n) ds).map .tuple
    | .loc k => match S[k]? with
      | some (.lst ds) => (snapL (snapX S n) ds).map .list
      | some (.dct kvs) => (snapL (snapX S n) (kvs.map (·.2))).map fun ps => .dict ((kvs.map fun p => keyPD p.1).zip ps)
      | _ => none
    | _ => none
def showsX (d : PyData) : Bool := d.showable && decide (d.depth ≤ 60) && decide (d.shown.length ≤ sizeLine)
def reprX : List D → M D
  | [x] => fun S => match snapX S 40 x with
    | some d => if showsX d = true then .ok (.str d.shown) S else .bad
    | none => .bad
  | _ => fail
section
variable {K : PySem.W.Frag} {X : Cx}
theorem snapL_dpX {mu : List Addr} {H : Hp} {f : D → Option PyData} (hf : ∀ d v p, f d = some p → Rep K mu H v d → DpX K H v p) : ∀ {ds : List D} {vs : List V} {ps : List PyData}, snapL f ds = some ps → Reps K mu H vs ds → DpXs K H vs ps
  | _, _, ps, e, .nil => by
    cases e
    exact .nil
  | d :: ds, _, ps, e, .cons r t => by
    unfold snapL at e
    cases e1 : f d with
    | none => rw [e1] at e; cases e
    | some a =>
      cases e2 : snapL f ds with
      | none => rw [e1, e2] at e; cases e
      | some as =>
        rw [e1, e2] at e
        cases e
        exact .cons (hf _ _ _ e1 r) (snapL_dpX hf e2 t)
theorem snapX_dp {mu : List Addr} {H : Hp} {S : Sto} (hS : HRep K mu H S) : ∀ (n : Nat) (d : D) (v : V) (p : PyData), snapX S n d = some p → Rep K mu H v d → DpX K H v p
  | 0, _, _, _, e, _ => by cases e
  | n + 1, d, v, p, e, r => by
    unfold snapX at e
    cases r with
    | non => cases e; exact .non
    | bl b => cases e; exact .bl b
    | int b => cases e; exact .int b
    | str b => cases e; exact .str b
    | ty _ => cases e
    | adr _ => cases e
    | exn _ _ _ _ _ _ _ => cases e
    | ttp _ _ => cases e
    | rls _ _ => cases e
    | tup _ h r =>
      obtain ⟨ps, e1, rfl⟩ := map_some e
      exact .tup (sqT_t h) (snapL_dpX (snapX_dp hS n) e1 r)
    | ktp h r =>
      obtain ⟨ps, e1, rfl⟩ := map_some e
      exact .tup (sqT_k h) (snapL_dpX (snapX_dp hS n) e1 r)
    | loc h =>
      obtain ⟨o, ho, q⟩ := hS.obj h
      simp only [ho] at e
      cases o with
      | lst ds =>
        obtain ⟨vs, h1, r1⟩ := q
        obtain ⟨ps, e1, rfl⟩ := map_some e
        exact .lst (.inl (.inl h1)) (snapL_dpX (snapX_dp hS n) e1 r1)
      | dct kvs =>
        obtain ⟨vs, h1, r1⟩ := q
        obtain ⟨ps, e1, rfl⟩ := map_some e
        obtain ⟨k1, k2⟩ := kreps_split r1
        have e : (kvs.map fun p => keyPD p.1) = vs.map fun p => keyPD p.1 := by
          have := congrArg (List.map keyPD) k1
          rw [List.map_map, List.map_map] at this
          exact this.symm
        rw [e]
        exact .dct h1 rfl (snapL_dpX (snapX_dp hS n) e1 k2)
      | dcT _ => cases e
      | tab _ _ => cases e
      | ins _ _ => cases e
def rReprX (K : PySem.W.Frag) : List V → Hp → VK → Prop := fun xs H Q => ∃ v d, xs = [v] ∧ DpX K H v d ∧ showsX d = true ∧ Q (.str d.shown) H
theorem call_reprX {k : Nat} (hr : Room k X.A) (hg : X.A.guards = some []) : CallR X (.builtin "repr") (rReprX X.K) := by
  intro pins s σ H xs us Q I r h
  obtain ⟨v, d, rfl, hd, hs, q⟩ := h
  obtain ⟨u, rfl, ru⟩ := vals1 r
  unfold showsX at hs
  simp only [Bool.and_eq_true, decide_eq_true_eq] at hs
  obtain ⟨⟨h1, h3⟩, h4⟩ := hs
  have rd := DpX.rd I hd ru
  have hu : X.A.units + (d.depth + 1) < cLine := by
    have := hr.units
    omega
  have big : ∀ a, u = .ref a → wpAny (model X.prog X.w) X.A (call (.builtin "repr") [u]) (EP X pins σ Q) X.xe s := fun a e => by
    subst e
    exact repr_rdn rd h1 h4 hg hu fun h' t tk hk => ⟨.str d.shown, H, I.kept hk, ⟨_, rfl⟩, q⟩
  cases rd with
  | none => exact PySem.P.repr_of_none ⟨.str _, H, I.tok _, ⟨_, rfl⟩, by simpa [PyData.shown] using q⟩
  | bool b => exact PySem.P.repr_of_bool ⟨.str _, H, I.tok _, ⟨_, rfl⟩, by simpa [PyData.shown] using q⟩
  | int i t => exact PySem.P.repr_of_int (by simpa [PyData.showable] using h1) ⟨.str _, H, I.tok _, ⟨_, rfl⟩, by simpa [PyData.shown] using q⟩
  | str x t => exact PySem.P.repr_of_str (by exact ⟨.str _, H, I.tok _, ⟨_, rfl⟩, by simpa [PyData.shown] using q⟩) (by simpa [PyData.shown] using h4)
  | list _ _ _ _ => exact big _ rfl
  | tuple _ _ _ _ => exact big _ rfl
  | dict _ _ _ _ _ _ => exact big _ rfl
theorem o_reprX : OpN K (rReprX K) reprX := by
  intro W σ mu H S xs vs Q hS hr hp
  unfold reprX at hp
  split at hp
  · obtain ⟨v, rfl, rv⟩ := one_of hr
    rename_i x
    cases e : snapX S 40 x with
    | none => simp only [e] at hp; exact hp.elim
    | some d =>
      simp only [e] at hp
      by_cases h : showsX d = true
      · rw [if_pos h] at hp
        exact ⟨v, d, rfl, snapX_dp hS _ _ _ _ e rv, h, hp mu H Ext.refl hS _ (.str _)⟩
      · rw [if_neg h] at hp
        exact hp.elim
  · exact hp.elim
end
theorem reprX_ok {S : Sto} {x : D} {d : PyData} (h : snapX S 40 x = some d) (hs : showsX d = true) : reprX [x] S = .ok (.str d.shown) S := by
  unfold reprX
  simp only [h]
  rw [if_pos hs]
theorem snapL_mono {f g : D → Option PyData} (h : ∀ d p, f d = some p → g d = some p) : ∀ {ds : List D} {ps : List PyData}, snapL f ds = some ps → snapL g ds = some ps
  | [], _, e => e
  | d :: ds, ps, e => by
    unfold snapL at e ⊢
    cases e1 : f d with
    | none => rw [e1] at e; cases e
    | some a =>
      cases e2 : snapL f ds with
      | none => rw [e1, e2] at e; cases e
      | some as =>
        rw [e1, e2] at e
        rw [h d a e1, snapL_mono h e2]
        exact e
/-- in a store that has more, the same -/
theorem snapX_mono {S T : Sto} (hT : ∀ (k : Nat) (o : MO), S[k]? = some o → (∃ ds, o = MO.lst ds) ∨ (∃ kvs, o = MO.dct kvs) → T[k]? = some o) : ∀ (n : Nat) (d : D) (p : PyData), snapX S n d = some p → snapX T n d = some p
  | 0, _, _, e => e
  | n + 1, d, p, e => by
    have ih := snapX_mono hT n
    unfold snapX at e ⊢
    split at e
    all_goals try exact e
    · obtain ⟨ps, e1, rfl⟩ := map_some e
      simp only [snapL_mono ih e1, Option.map_some]
    · obtain ⟨ps, e1, rfl⟩ := map_some e
      simp only [snapL_mono ih e1, Option.map_some]
    · split at e
      · rename_i hk
        obtain ⟨ps, e1, rfl⟩ := map_some e
        simp only [hT _ _ hk (.inl ⟨_, rfl⟩), snapL_mono ih e1, Option.map_some]
      · rename_i hk
        obtain ⟨ps, e1, rfl⟩ := map_some e
        simp only [hT _ _ hk (.inr ⟨_, rfl⟩), snapL_mono ih e1, Option.map_some]
      · cases e
theorem snapX_app {S : Sto} (l : Sto) {n : Nat} {d : D} {p : PyData} (h : snapX S n d = some p) : snapX (S ++ l) n d = some p := snapX_mono (fun k o e _ => at_old e) n d p h
end Fa
namespace Fa
open PySem PySem.Spec PyProof.Rows L2 LamX
/-! ### values of any kind, beside a pot that changes -/
/-- lists and dicts that stand in S stand in T -/
def Mor (S T : Sto) : Prop := ∀ (k : Nat) (o : MO), S[k]? = some o → (∃ ds, o = MO.lst ds) ∨ (∃ kvs, o = MO.dct kvs) → T[k]? = some o
mutual
theorem okD_mor {S T : Sto} (hT : Mor S T) : ∀ {d : D}, okD S d = true → okD T d = true
  | .non, _ | .bl _, _ | .int _, _ => rfl
  | .str z, h => h
  | .tup ds, h => by
    simp only [okD, Bool.and_eq_true] at h ⊢
    exact ⟨h.1, okDs_mor hT h.2⟩
  | .loc n, h => by
    unfold okD at h ⊢
    cases e : S[n]? with
    | none => rw [e] at h; cases h
    | some o =>
      rw [e] at h
      cases o with
      | lst ds => rw [hT n _ e (.inl ⟨_, rfl⟩)]
      | dct kvs => rw [hT n _ e (.inr ⟨_, rfl⟩)]
      | dcT _ => cases h
      | ins _ _ => cases h
      | tab _ _ => cases h
theorem okDs_mor {S T : Sto} (hT : Mor S T) : ∀ {ds : List D}, okDs S ds = true → okDs T ds = true
  | [], _ => rfl
  | d :: ds, h => by
    simp only [okDs, Bool.and_eq_true] at h ⊢
    exact ⟨okD_mor hT h.1, okDs_mor hT h.2⟩
end
theorem snapX_up {S : Sto} : ∀ (n : Nat) (d : D) (p : PyData), snapX S n d = some p → snapX S (n + 1) d = some p
  | 0, _, _, e => by cases e
  | n + 1, d, p, e => by
    have ih := snapX_up (S := S) n
    cases d with
    | tup ds =>
      have e : (snapL (snapX S n) ds).map PyData.tuple = some p := e
      obtain ⟨ps, e1, e2⟩ := map_some e
      show (snapL (snapX S (n + 1)) ds).map PyData.tuple = some p
      rw [snapL_mono ih e1, ← e2]
      rfl
    | ktp ds =>
      have e : (snapL (snapX S n) ds).map PyData.tuple = some p := e
      obtain ⟨ps, e1, e2⟩ := map_some e
      show (snapL (snapX S (n + 1)) ds).map PyData.tuple = some p
      rw [snapL_mono ih e1, ← e2]
      rfl
    | loc k =>
      have e : (match S[k]? with
        | some (.lst ds) => (snapL (snapX S n) ds).map PyData.list
        | some (.dct kvs) => (snapL (snapX S n) (kvs.map (·.2))).map fun ps => PyData.dict ((kvs.map fun p => keyPD p.1).zip ps)
        | _ => none) = some p := e
      show (match S[k]? with
        | some (.lst ds) => (snapL (snapX S (n + 1)) ds).map PyData.list
        | some (.dct kvs) => (snapL (snapX S (n + 1)) (kvs.map (·.2))).map fun ps => PyData.dict ((kvs.map fun p => keyPD p.1).zip ps)
        | _ => none) = some p
      split at e
      · obtain ⟨ps, e1, e2⟩ := map_some e
        rw [snapL_mono ih e1, ← e2]
        rfl
      · obtain ⟨ps, e1, e2⟩ := map_some e
        rw [snapL_mono ih e1, ← e2]
        rfl
      · cases e
    | _ => exact e
theorem snapX_lv {S : Sto} {n m : Nat} {d : D} {p : PyData} (h : snapX S n d = some p) (hm : n ≤ m) : snapX S m d = some p := by
  induction m with
  | zero => cases n with
    | zero => exact h
    | succ n => omega
  | succ m ih =>
    by_cases e : n = m + 1
    · rw [← e]; exact h
    · exact snapX_up m d p (ih (by omega))
theorem snapX_lst {S : Sto} {k : Nat} {ds : List D} (h : S[k]? = some (.lst ds)) (n : Nat) : snapX S (n + 1) (.loc k) = (snapL (snapX S n) ds).map PyData.list := by
  unfold snapX
  simp only [h]
theorem snapX_dct {S : Sto} {k : Nat} {kvs : List (Key × D)} (h : S[k]? = some (.dct kvs)) (n : Nat) : snapX S (n + 1) (.loc k) = (snapL (snapX S n) (kvs.map (·.2))).map fun ps => PyData.dict ((kvs.map fun p => keyPD p.1).zip ps) := by
  unfold snapX
  simp only [h]
def Sx (p : Nat) (S : Sto) : Sto := S.set p (.ins (Str.ofString "") [])
theorem Sx_mor (p : Nat) (S : Sto) : Mor (Sx p S) S := fun k o e h => by
  unfold Sx at e
  by_cases hk : p = k
  · subst hk
    by_cases hl : p < S.length
    · rw [List.getElem?_set_self hl] at e
      cases e
      rcases h with ⟨_, h⟩ | ⟨_, h⟩ <;> cases h
    · rw [List.getElem?_eq_none (by rw [List.length_set]; omega)] at e
      cases e
  · rwa [List.getElem?_set_ne hk] at e
theorem Sx_at {p k : Nat} {S : Sto} {o : MO} (h : S[k]? = some o) (hk : k ≠ p) : (Sx p S)[k]? = some o := by
  unfold Sx
  rw [List.getElem?_set_ne (Ne.symm hk)]
  exact h
/-- d is plain data of at most so many levels, which repr tells in at most so many signs, whatever stands at p -/
structure Vl (p : Nat) (S : Sto) (n B : Nat) (d : D) : Prop where
  ok : okD (Sx p S) d = true
  ex : ∃ q, snapX (Sx p S) (n + 1) d = some q ∧ q.showable = true ∧ q.depth ≤ n ∧ q.shown.length ≤ B
section
variable {p n B : Nat} {S T : Sto} {d : D}
theorem Vl.mono (h : Vl p S n B d) {n' B' : Nat} (hn : n ≤ n') (hB : B ≤ B') : Vl p S n' B' d := by
  obtain ⟨q, h1, h2, h3, h4⟩ := h.ex
  exact ⟨h.ok, q, snapX_lv h1 (by omega), h2, by omega, by omega⟩
theorem Vl.grw (h : Vl p S n B d) (hT : ∀ i, i ≠ p → i < S.length → T[i]? = S[i]?) : Vl p T n B d := by
  have hm : Mor (Sx p S) (Sx p T) := fun k o e ho => by
    have e1 := Sx_mor p S k o e ho
    have hk : k ≠ p := fun z => by
      subst z
      unfold Sx at e
      have hl : k < S.length := by
        have := (List.getElem?_eq_some_iff.mp e1).1
        exact this
      rw [List.getElem?_set_self hl] at e
      cases e
      rcases ho with ⟨_, h⟩ | ⟨_, h⟩ <;> cases h
    refine Sx_at ?_ hk
    rw [hT k hk (List.getElem?_eq_some_iff.mp e1).1]
    exact e1
  obtain ⟨q, h1, h2⟩ := h.ex
  exact ⟨okD_mor hm h.ok, q, snapX_mono hm _ _ _ h1, h2⟩
theorem Vl.okS (h : Vl p S n B d) : okD S d = true := okD_mor (Sx_mor p S) h.ok
theorem Vl.rep (h : Vl p S n B d) (hn : n ≤ 30) (hB : B ≤ 100000) (l : Sto) : ∃ q : PyData, reprX [d] (S ++ l) = .ok (.str q.shown) (S ++ l) ∧ snapX (Sx p S) (n + 1) d = some q := by
  obtain ⟨q, h1, h2, h3, h4⟩ := h.ex
  refine ⟨q, reprX_ok (snapX_app l (snapX_mono (Sx_mor p S) _ _ _ (snapX_lv h1 (by omega)))) ?_, h1⟩
  unfold showsX
  rw [h2, decide_eq_true (show q.depth ≤ 60 by omega), decide_eq_true (show q.shown.length ≤ sizeLine by rw [sizeLine_eq]; omega)]
  rfl
theorem vl_int {i : Int} (h : i.natAbs.log2 < 1920) (hl : (Str.ofString (toString i)).length ≤ B) : Vl p S n B (.int i) := ⟨rfl, .int i, by cases n <;> rfl, decide_eq_true h, Nat.zero_le _, hl⟩
theorem vl_non (hB : 4 ≤ B) : Vl p S n B .non := ⟨rfl, .none, by cases n <;> rfl, rfl, Nat.zero_le _, hB⟩
theorem vl_bl {b : Bool} (hB : 5 ≤ B) : Vl p S n B (.bl b) := ⟨rfl, .bool b, by cases n <;> rfl, rfl, Nat.zero_le _, by cases b <;> first | exact hB | exact Nat.le_trans (by decide) hB⟩
theorem vl_str {x : Str} (hx : strG x = true) (hl : x.length ≤ 1000) (hB : 10 * x.length + 2 ≤ B) : Vl p S n B (.str x) := ⟨decide_eq_true hl, .str x, by cases n <;> rfl, rfl, Nat.zero_le _, Nat.le_trans (StrLaws.reprText_len x fun c hc => of_decide_eq_true (List.all_eq_true.mp hx c hc)) hB⟩
theorem vl_all : ∀ {ds : List D}, (∀ d ∈ ds, Vl p S n B d) → okDs (Sx p S) ds = true ∧ ∃ qs, snapL (snapX (Sx p S) (n + 1)) ds = some qs ∧ PyData.showableAll qs = true ∧ PyData.depthAll qs ≤ n ∧ piled (PyData.shownAll qs) ≤ (B + 2) * ds.length
  | [], _ => ⟨rfl, [], rfl, rfl, Nat.zero_le _, Nat.zero_le _⟩
  | d :: ds, h => by
    have hd := h d List.mem_cons_self
    obtain ⟨q, h1, h2, h3, h4⟩ := hd.ex
    obtain ⟨g0, qs, g1, g2, g3, g4⟩ := vl_all (ds := ds) fun e he => h e (List.mem_cons_of_mem _ he)
    refine ⟨by simp only [okDs, hd.ok, g0]; rfl, q :: qs, ?_, ?_, ?_, ?_⟩
    · unfold snapL
      rw [h1, g1]
    · show (PyData.showable q && PyData.showableAll qs) = true
      rw [h2, g2]
      rfl
    · show max (PyData.depth q) (PyData.depthAll qs) ≤ n
      exact Nat.max_le.mpr ⟨h3, g3⟩
    · have : piled (PyData.shownAll (q :: qs)) = q.shown.length + 2 + piled (PyData.shownAll qs) := by
        simp only [PyData.shownAll, piled, List.map_cons, List.sum_cons]
      rw [this, List.length_cons, Nat.mul_add]
      omega
theorem vl_tup {ds : List D} (h : ∀ d ∈ ds, Vl p S n B d) (hl : ds.length ≤ 1000) {B' : Nat} (hB : (B + 2) * ds.length + 3 ≤ B') : Vl p S (n + 1) B' (.tup ds) := by
  obtain ⟨g0, qs, g1, g2, g3, g4⟩ := vl_all h
  refine ⟨?_, .tuple qs, ?_, g2, ?_, ?_⟩
  · simp only [okD, g0, decide_eq_true hl]
    rfl
  · show (snapL (snapX (Sx p S) (n + 1)) ds).map PyData.tuple = _
    rw [g1]
    rfl
  · show PyData.depthAll qs + 1 ≤ n + 1
    omega
  · show (tupleText (PyData.shownAll qs)).length ≤ B'
    have := tup_len (PyData.shownAll qs)
    omega
theorem piled_sum (ts : List Str) : (ts.map (·.length)).sum + 2 * ts.length = piled ts := by
  induction ts with
  | nil => rfl
  | cons x ts ih =>
    have : piled (x :: ts) = x.length + 2 + piled ts := by simp only [piled, List.map_cons, List.sum_cons]
    rw [this, List.map_cons, List.sum_cons, List.length_cons]
    omega
theorem lst_len (ts : List Str) : (listText ts).length ≤ piled ts + 3 := by
  have := listText_len_le ts
  rw [piled_sum] at this
  exact this
theorem vl_lst {k : Nat} {ds : List D} (hk : S[k]? = some (.lst ds)) (hp : k ≠ p) (h : ∀ d ∈ ds, Vl p S n B d) {B' : Nat} (hB : (B + 2) * ds.length + 3 ≤ B') : Vl p S (n + 1) B' (.loc k) := by
  obtain ⟨g0, qs, g1, g2, g3, g4⟩ := vl_all h
  have hx := Sx_at (p := p) hk hp
  refine ⟨?_, .list qs, ?_, g2, ?_, ?_⟩
  · unfold okD
    rw [hx]
  · rw [snapX_lst hx, g1]
    rfl
  · show PyData.depthAll qs + 1 ≤ n + 1
    omega
  · show (listText (PyData.shownAll qs)).length ≤ B'
    have := lst_len (PyData.shownAll qs)
    omega
/-- a dict of plain data, told beforehand -/
theorem vl_dct {k : Nat} {kvs : List (Key × D)} {q : PyData} (hk : S[k]? = some (.dct kvs)) (hp : k ≠ p) (hq : (snapL (snapX (Sx p S) (n + 1)) (kvs.map (·.2))).map (fun ps => PyData.dict ((kvs.map fun p => keyPD p.1).zip ps)) = some q) (h1 : q.showable = true) (h2 : q.depth ≤ n + 1) (h3 : q.shown.length ≤ B) : Vl p S (n + 1) B (.loc k) := by
  have hx := Sx_at (p := p) hk hp
  refine ⟨?_, q, ?_, h1, h2, h3⟩
  · unfold okD
    rw [hx]
  · rw [snapX_dct hx]
    exact hq
end
end Fa
namespace Fa
open PySem PySem.Spec PyProof.Rows L2 LamX
section
variable {K : PySem.W.Frag} {X : Cx}
/-! ### str(x) -/
theorem call_str_bl : CallR X (.type "str") (fun xs H Q => ∃ b, xs = [.bl b] ∧ Q (.str (if b then "True" else "False")) H) := by
  intro pins s σ H xs us Q I r h
  obtain ⟨b, rfl, q⟩ := h
  obtain ⟨u, rfl, r1⟩ := vals1 r
  cases r1
  exact PySem.P.str_of_bool ⟨.str _, H, I.tok _, ⟨_, by cases b <;> rfl⟩, q⟩
def rStr : List V → Hp → VK → Prop := fun xs H Q => (∃ i, xs = [.int i] ∧ i.natAbs.log2 < 1920 ∧ Q (.str (toString i)) H) ∨ (∃ a, xs = [.str a] ∧ Q (.str a) H) ∨ ∃ b, xs = [.bl b] ∧ Q (.str (if b then "True" else "False")) H
theorem call_strA : CallR X (.type "str") rStr := call_str_int.or (SkE.call_str_str.or call_str_bl)
def strD : List D → M D
  | [.int i] => fun S => if i.natAbs.log2 < 1920 then .ok (.str (toString i)) S else .bad
  | [.str a] => fun S => .ok (.str a) S
  | [.bl b] => fun S => .ok (.str (if b then "True" else "False")) S
  | _ => fail
theorem o_str : OpN K rStr strD := by
  intro W σ mu H S xs vs Q hS rs hp
  unfold strD at hp
  split at hp
  · rename_i i
    obtain ⟨v, rfl, rv⟩ := one_of rs
    cases rv
    split at hp
    · rename_i h
      exact .inl ⟨i, rfl, h, hp mu H Ext.refl hS _ (.str _)⟩
    · exact hp.elim
  · rename_i a
    obtain ⟨v, rfl, rv⟩ := one_of rs
    cases rv
    exact .inr (.inl ⟨a, rfl, hp mu H Ext.refl hS _ (.str _)⟩)
  · rename_i b
    obtain ⟨v, rfl, rv⟩ := one_of rs
    cases rv
    exact .inr (.inr ⟨b, rfl, hp mu H Ext.refl hS _ (.str _)⟩)
  · exact hp.elim
/-! ### methods of texts with one argument -/
def mSM (f : D → List D → M D) (o a : Env → M D) : Env → M D := fun r => bnd (o r) fun x => match x with
  | .str z => bnd (a r) fun y => f (.str z) [y]
  | _ => fail
theorem se_sm {W : WX} {name : Str} {r : V → List V → Hp → VK → Prop} {f : D → List D → M D} {o e : Expr} {mo me : Env → M D} {pos apos : Pos} (hf : OpM X.K r f) (ho : SE X W o mo) (he : SE X W e me)
    (base : ∀ {to te : TE}, PE X o to → PE X e te → PE X (.Call (.Attribute o name apos) [e] [] pos) (tM1 r to te)) : SE X W (.Call (.Attribute o name apos) [e] [] pos) (mSM f mo me) := peI (base ho he) fun σ H Q q => by
  obtain ⟨r, mu, S, hS, he, hp⟩ := q
  refine ⟨r, mu, S, hS, he, hp.bnd.imp fun x S1 mu1 H1 ex hS1 q1 v rv => ?_⟩
  cases x with
  | str z =>
    have q2 : Post X.K W σ mu1 H1 _ (bnd (me r) (fun y => f (.str z) [y]) S1) := q1
    cases rv
    exact ⟨⟨z, rfl⟩, r, mu1, S1, hS1, he.mono ex, q2.bnd.imp fun y S2 mu2 H2 ex2 hS2 q3 w rw => hf W σ mu2 H2 S2 _ _ _ _ Q hS2 (.str _) (.cons rw .nil) q3⟩
  | _ => exact q1.elim
def rJoin (K : PySem.W.Frag) : V → List V → Hp → VK → Prop := fun x xs H Q => ∃ a p, ∃ ys : List Str, x = .str a ∧ xs = [.ref p] ∧ (SqL K H p (ys.map V.str) ∨ SqT K H p (ys.map V.str)) ∧
    (ys.map (·.length)).sum + ys.length * a.length ≤ 16777216 ∧ Q (.str (Txt.join a ys)) H
def joinD : D → List D → M D := fun x xs S => match x, xs with
  | .str a, [.loc n] => match S[n]? with
    | some (.lst ds) => match strsOf ds with
      | some ys => if (ys.map (·.length)).sum + ys.length * a.length ≤ 16777216 then .ok (.str (Txt.join a ys)) S else .bad
      | none => .bad
    | _ => .bad
  | _, _ => .bad
theorem o_join : OpM K (rJoin K) joinD := by
  intro W σ mu H S x xs v vs Q hS rv rs hp
  unfold joinD at hp
  split at hp
  · rename_i a n
    obtain ⟨w, rfl, rw⟩ := one_of rs
    cases rv
    split at hp
    · rename_i ds hn
      split at hp
      · rename_i ys e
        split at hp
        · rename_i hl
          cases rw with
          | loc hm =>
            obtain ⟨p, hp1, us, h1, h2⟩ := hS.at hn
            rw [hm] at hp1
            cases hp1
            exact ⟨a, _, ys, rfl, rfl, .inl (by rw [← strsOf_of e h2]; exact .inl (.inl h1)), hl, hp mu H Ext.refl hS _ (.str _)⟩
        · exact hp.elim
      · exact hp.elim
    · exact hp.elim
  · exact hp.elim
theorem join_l {a : Str} {n : Nat} {ys : List Str} {S : Sto} (h : S[n]? = some (.lst (ys.map D.str))) (hs : strsOf (ys.map D.str) = some ys) (hl : (ys.map (·.length)).sum + ys.length * a.length ≤ 16777216) : joinD (.str a) [.loc n] S = .ok (.str (Txt.join a ys)) S := by
  unfold joinD
  simp only [h, hs]
  rw [if_pos hl]
def rStrip : V → List V → Hp → VK → Prop := fun x xs H Q => ∃ a b, x = .str a ∧ xs = [.str b] ∧ a.length ≤ sizeLine ∧ Q (.str (Txt.stripChars a b)) H
def stripD : D → List D → M D := fun x xs S => match x, xs with
  | .str a, [.str b] => if a.length ≤ sizeLine then .ok (.str (Txt.stripChars a b)) S else .bad
  | _, _ => .bad
theorem o_strip : OpM K rStrip stripD := by
  intro W σ mu H S x xs v vs Q hS rv rs hp
  unfold stripD at hp
  split at hp
  · rename_i a b
    obtain ⟨w, rfl, rw⟩ := one_of rs
    cases rv
    cases rw
    split at hp
    · rename_i h
      exact ⟨a, b, rfl, rfl, h, hp mu H Ext.refl hS _ (.str _)⟩
    · exact hp.elim
  · exact hp.elim
theorem pe_stripC {o e : Expr} {to te : TE} {apos pos : Pos} (ho : PE X o to) (he : PE X e te) (hs : starEach [e] X.env = [(false, eval e X.env)] := by rfl) (hbase : attributeBase o "strip" X.env (eval o X.env) = eval o X.env := by rfl) (hline : (apos.endLine == pos.line) = true := by rfl) :
    PE X (.Call (.Attribute o "strip" apos) [e] [] pos) (tM1 rStrip to te) := pe_m1 F.slot_str_strip F.type_str_strip mt_stripChars ho he hs hbase hline
theorem pe_joinR {o e : Expr} {to te : TE} {apos pos : Pos} (ho : PE X o to) (he : PE X e te) (hs : starEach [e] X.env = [(false, eval e X.env)] := by rfl) (hbase : attributeBase o "join" X.env (eval o X.env) = eval o X.env := by rfl) (hline : (apos.endLine == pos.line) = true := by rfl) :
    PE X (.Call (.Attribute o "join" apos) [e] [] pos) (tM1 (rJoin X.K) to te) := pe_join ho he hs hbase hline
/-! ### f-strings -/
def fmtD : D → M D := fun d S => match d with
  | .str y => if y.length ≤ sizeLine then .ok (.str y) S else .bad
  | .int i => if i.natAbs.log2 < 1920 then .ok (.str (toString i)) S else .bad
  | _ => .bad
theorem se_fmt {W : WX} {e : Expr} {m : Env → M D} {pos : Pos} (he : SE X W e m) : SE X W (.FormattedValue e (-1) none pos) (m1 fmtD m) := peI (pe_fmt he) fun σ H Q q => by
  obtain ⟨r, mu, S, hS, he, hp⟩ := q
  refine ⟨r, mu, S, hS, he, hp.bnd.imp fun x S1 mu1 H1 ex hS1 q1 v rv => ?_⟩
  unfold fmtD at q1
  split at q1
  · rename_i y
    cases rv
    split at q1
    · rename_i h
      exact .inl ⟨y, rfl, h, q1 mu1 H1 Ext.refl hS1 _ (.str _)⟩
    · exact q1.elim
  · rename_i i
    cases rv
    split at q1
    · rename_i h
      exact .inr ⟨i, rfl, h, q1 mu1 H1 Ext.refl hS1 _ (.str _)⟩
    · exact q1.elim
  · exact q1.elim
/-- texts one behind the other -/
def mJs : List (Env → M D) → Str → Env → M D
  | [], acc => fun _ S => .ok (.str acc) S
  | m :: ms, acc => fun r => bnd (m r) fun x => match x with
    | .str y => fun S => if (acc ++ y).length ≤ sizeLine then mJs ms (acc ++ y) r S else .bad
    | _ => fail
inductive SJ (X : Cx) (W : WX) : List Expr → List (Env → M D) → Prop where
  | nil : SJ X W [] []
  | cons {e : Expr} {m : Env → M D} {es : List Expr} {ms : List (Env → M D)} (h : SE X W e m) (t : SJ X W es ms) : SJ X W (e :: es) (m :: ms)
theorem SJ.pj {W : WX} {es : List Expr} {ms : List (Env → M D)} (h : SJ X W es ms) : PJ X es (ms.map fun m => rdE X.K W m) := by
  induction h with
  | nil => exact .nil
  | cons h _ ih => exact .cons h ih
theorem js_of {W : WX} : ∀ {ms : List (Env → M D)} {acc : Str} {σ : L2.St} {H : Hp} {Q : VK} {r : Env} {mu : List Addr} {S : Sto}, HRep X.K mu H S → ERep X.K mu H σ r → Post X.K W σ mu H (fun d _ mu' H' => ∀ v, Rep X.K mu' H' v d → Q v H') (mJs ms acc r S) → tJs (ms.map fun m => rdE X.K W m) acc σ H fun out H1 => Q (.str out) H1
  | [], acc, σ, H, Q, r, mu, S, hS, he, hp => hp mu H Ext.refl hS _ (.str _)
  | m :: ms, acc, σ, H, Q, r, mu, S, hS, he, hp => by
    have hp : Post X.K W σ mu H _ (bnd (m r) (fun x => match x with
      | .str y => fun S => if (acc ++ y).length ≤ sizeLine then mJs ms (acc ++ y) r S else .bad
      | _ => fail) S) := hp
    refine ⟨r, mu, S, hS, he, hp.bnd.imp fun x S1 mu1 H1 ex hS1 q1 v rv => ?_⟩
    cases x with
    | str y =>
      cases rv
      have q1 : Post X.K W σ mu1 H1 _ (if (acc ++ y).length ≤ sizeLine then mJs ms (acc ++ y) r S1 else .bad) := q1
      split at q1
      · rename_i h
        exact ⟨y, rfl, h, js_of hS1 (he.mono ex) q1⟩
      · exact q1.elim
    | _ => exact q1.elim
theorem se_joined {W : WX} {v1 v2 : Expr} {rest : List Expr} {ms : List (Env → M D)} {pos : Pos} (h : SJ X W (v1 :: v2 :: rest) ms) : SE X W (.JoinedStr (v1 :: v2 :: rest) pos) (mJs ms Str.empty) := peI (pe_joined h.pj) fun σ H Q q => by
  obtain ⟨r, mu, S, hS, he, hp⟩ := q
  exact js_of hS he hp
/-! ### a list times an int -/
def mulC' : D → D → M D
  | .loc n, .int k => fun S => match S[n]? with
    | some (.lst ds) => if 0 ≤ k ∧ k < 1000 ∧ ds.length * k.toNat ≤ sizeLine then .ok (.loc S.length) (S ++ [.lst (List.replicate k.toNat ds).flatten]) else .bad
    | _ => .bad
  | x, y => mulB x y
def rMulC (K : PySem.W.Frag) : R2 := fun x y H Q => rRep x y H Q ∨ rMulB K x y H Q
theorem op_mulC : OpR X (binaryOp .Mult) (rMulC X.K) := op_rep.or op_mulB
theorem reps_flat {mu : List Addr} {H : Hp} {vs : List V} {ds : List D} (h : Reps K mu H vs ds) : ∀ n : Nat, Reps K mu H (List.replicate n vs).flatten (List.replicate n ds).flatten
  | 0 => .nil
  | n + 1 => by
    rw [List.replicate_succ, List.replicate_succ, List.flatten_cons, List.flatten_cons]
    exact h.append (reps_flat h n)
theorem o_mulC {K : PySem.W.Frag} : Op2 K (rMulC K) mulC' := by
  intro W σ mu H S x y v w Q hS rx ry hp
  unfold mulC' at hp
  split at hp
  · rename_i n k
    split at hp
    · rename_i ds hn
      split at hp
      · rename_i hk
        cases rx with
        | loc hm =>
          cases ry
          obtain ⟨p, hp1, us, h1, h2⟩ := hS.at hn
          rw [hm] at hp1
          cases hp1
          refine .inl ⟨_, k, us, rfl, rfl, h1, by omega, by omega, by rw [h2.length]; exact hk.2.2, fun q hq => ?_⟩
          exact hp _ _ (ext_new hq) (hS.new hq (by exact ⟨_, upd_same, (reps_flat h2 _).mono (ext_new hq)⟩)) _ (.loc (by rw [hS.len]; simp))
      · exact hp.elim
    · exact hp.elim
  · exact .inr (o_mulB W σ mu H S _ _ _ _ Q hS rx ry hp)
end
end Fa
namespace Fa
open PySem PySem.Spec PyProof.Rows L2 StX
/-! ### a def with a star parameter alone -/
def varM (F : List D → M D) : List D → M D := fun ds S => if ds.length ≤ 1000 then F [.tup ds] S else .bad
def FnV (P : Program) (w : World) (K : PySem.W.Frag) (mg : Str → Option Value) (base : Heap) (k : Nat) (f : Addr) (F : List D → M D) : Prop :=
  ∀ (A : Around) (outer : List PySem.Env) (s : Shared) (H : Hp) (us : List Value) (vs : List V) (Q : VK) (E : XK), Room k A → A.guards = some [] → Env0 P w K mg base A outer s H →
    Vals vs us → prom K F vs H Q E → codeAny (model P w) A (.call (.ref f) ⟨us, []⟩) (CR (L2.CX P w) outer P w H s Q E) s
theorem FnV.mono {P : Program} {w : World} {K : PySem.W.Frag} {mg : Str → Option Value} {base : Heap} {j k : Nat} {f : Addr} {F : List D → M D} (G : FnV P w K mg base j f F) (h : j ≤ k) : FnV P w K mg base k f F :=
  fun A outer s H us vs Q E hr => G A outer s H us vs Q E (hr.mono h)
theorem fnV_mk {P : Program} {w : World} {K : PySem.W.Frag} {mg : Str → Option Value} {base : Heap} {x qual pv : Str} {st : Stmt} {f : Addr} {fd : FuncData} {N : List Str} {k : Nat} {m : Env → Sto → Out} (Fu : Fun K x qual st f fd) (sc : FnScope N [pv] (defScope st))
    (hbind : ∀ rest : List Value, bindArgs fd ⟨rest, []⟩ = (newTuple rest >>= fun t => pure [(pv, t)]))
    (hb : ∀ (cdv : Value) (A : Around) (outer : List PySem.Env) (s : Shared) (H : Hp) (E : XK), Room k (A.deeper (envOfC qual (defScope st) s.heap.objs.size f cdv)) → A.guards = some [] →
      Takes (cxOf (L2.CX P w) P w K mg base N qual (defScope st) f cdv A outer s H E) (WF E) → SB (cxOf (L2.CX P w) P w K mg base N qual (defScope st) f cdv A outer s H E) (WF E) (defBody st) m) :
    FnV P w K mg base (k + 1) f (varM (fnM N.length 1 m)) := by
  intro A outer s H us vs Q E hr hgd e0 rv hpr
  obtain ⟨oc, od, kV, doc, pm, an, cdv, ct, osl, rfl, lk, hcd⟩ := Fu.ex
  obtain ⟨ds, mu, S, hS, hrs, hp⟩ := hpr
  have hn : H s.heap.objs.size = Option.none := e0.hok.fresh (Nat.le_refl _)
  have hld : ds.length ≤ 1000 := by
    refine Decidable.byContradiction fun z => ?_
    unfold varM at hp
    rw [if_neg z] at hp
    exact hp
  have hl : vs.length ≤ sizeLine := by rw [hrs.length]; exact le_line hld
  have hl2 : us.length ≤ sizeLine := by rw [← rv.length]; exact hl
  refine run_bnd lk hcd sc hr e0 (CX := L2.CX P w) (G := fun xs H2 => ∃ p o, H p = Option.none ∧ o.dict = none ∧ xs = [V.ref p] ∧ H2 = upd H p (.frz o (.tup vs))) (fun A' Ex Q' h => ?_) fun s2 H2 xs ⟨p, o, hp0, ho, ex, eH⟩ hr' => ?_
  · rw [hbind us]
    refine wpAny_bind (wpAny_newTuple (wpAny_pure ?_) hl2)
    have un := un_laid (fs := frs outer) (s := s) (o := ({ cls := .type "tuple", data := .seq us.toArray } : Obj)) (u := .frz { cls := .type "tuple", data := .seq us.toArray } (.tup vs)) hn
    exact h _ _ [V.ref s.heap.objs.size] [Value.ref s.heap.objs.size] (env0_laid e0 (frz_ok hl rv)) un rfl (fun e s' => cxUp outer s H _ _ E e s' un (fun b o q => Heap.get?_push_of_some _ q) rfl) (.cons rfl .nil) rfl ⟨_, _, hn, rfl, rfl, rfl⟩
  · subst ex eH
    refine ⟨_, hb cdv A outer s2 _ E hr' hgd (takes_of rfl rfl rfl rfl), _, mu, S, hS.tup hp0, erep_start (vs := [V.ref p]) (ds := [D.tup ds]) _ (.cons (.tup ho upd_same (hrs.mono (ext_tup hp0))) .nil), ?_⟩
    unfold varM at hp
    rw [if_pos hld] at hp
    unfold fnM at hp
    rw [if_pos (by rfl)] at hp
    have ex := ext_tup (mu := mu) (u := .frz o (.tup vs)) hp0
    have hp : Post K (fun c d _ H => E c d H) [] mu (upd H p (.frz o (.tup vs))) _ _ := hp.later ex
    have e1 : [V.ref p].length = 1 := rfl
    rw [e1]
    cases eo : m ([D.tup ds].map some ++ List.replicate (N.length - 1) none) S with
    | nx r S' => rw [eo] at hp; exact fun m2 H2 σ2 e2 h2 _ => hp m2 H2 e2 h2 _ .non
    | rt d S' => rw [eo] at hp; exact fun m2 H2 v e2 h2 q2 => hp m2 H2 e2 h2 v q2
    | bk r S' => rw [eo] at hp; exact hp.elim
    | ct r S' => rw [eo] at hp; exact hp.elim
    | ex z r S' => rw [eo] at hp; exact fun m2 H2 σ2 c dd e2 h2 _ q2 => hp m2 H2 c dd e2 h2 q2
    | bad => rw [eo] at hp; exact hp
section
variable {X : Cx} {W : WX} {k : Nat} {f : Addr} {F : List D → M D} {x : Str} {p pos : Pos} {e : Expr} {es : List Expr} {ms : Env → M (List D)}
theorem se_callV (G : FnV X.prog X.w X.K X.mg X.base k f F) (hr : Room k X.A) (hgd : X.A.guards = some []) (tk : Takes X W) (hg : Gl X x) (hm : X.mg x = some (.ref f)) (hk : PySem.W.keepIn X.K (.ref f) = true)
    (ha : SA X W (e :: es) ms) (hdb : (x == ("__debug__" : Str)) = false := by decide) (he : starEach (e :: es) X.env = (false, eval e X.env) :: starEach es X.env := by rfl) (hpl : (backTo pos (starEach es X.env)).any (·.1) = false := by rfl) :
    SE X W (.Call (.Name x p) (e :: es) [] pos) (mA F ms) := by
  constructor
  intro pins s σ H Q I q
  obtain ⟨r, mu, S, hS, hE, hp⟩ := q
  refine wpAny_Call_Name_kw (ld_glob I hg hm ?_ hdb)
  have q1 : rdA X.K W ms σ H fun vs H1 => prom X.K F vs H1 Q (WE W σ) :=
    ⟨r, mu, S, hS, hE, hp.bnd.imp fun ds S1 m2 H2 ex h2 q2 vs rv => prom_of h2 rv q2⟩
  refine PySem.W.callWith_K (h₀ := X.base) I.ok.mod.kin hk (thn (ha.run pos pins s σ H _ I q1) fun us s1 z => ?_) he hpl
  obtain ⟨vs, H1, I1, rv, hpr⟩ := z
  refine ⟨I1.kIn, ?_⟩
  refine wpAny_call (codeAny_mono (G X.A X.stack s1 H1 us vs Q (WE W σ) hr hgd I1.env0 rv hpr) fun res s' hq => ?_)
  cases res with
  | error y => exact passAt tk σ pins H1 s1 y s' I1 hq
  | ok fl =>
    cases fl with
    | ret u => exact I1.after hq
    | _ => exact False.elim hq
end
end Fa
namespace Fa
open PySem PySem.Spec PyProof.Rows L2
section
variable {prog : Program} {w : World} {A : Around} {E : Value → Shared → Prop} {s : Shared}
theorem adjust_rev (n : Nat) : Builtin.Slice.sliceAdjust none none (-1) (n : Int) = ((n : Int) - 1, -1) := by
  unfold Builtin.Slice.sliceAdjust
  rfl
theorem places_rev (n : Nat) : Builtin.Slice.slicePlaces ((n : Int) - 1) (-1) (-1) = n := by
  unfold Builtin.Slice.slicePlaces
  have h1 : ¬ ((-1 : Int) > 0) := by decide
  simp only [h1, if_false]
  by_cases h : n = 0
  · subst h; rfl
  · have h2 : (-1 : Int) < (n : Int) - 1 := by omega
    simp only [h2, if_true]
    have : ((n : Int) - 1 - -1 - 1) / (- -1) + 1 = n := by
      rw [show (- -1 : Int) = 1 by decide, Int.ediv_one]
      omega
    omega
theorem sliceApplied_rev {sl : Addr} {vl vu vs : Value} {n : Nat} {Q : Int × Int × Nat → Shared → Prop} (hs : s.heap.IsSliceOf sl vl vu vs) (pl : IsPart vl none) (pu : IsPart vu none) (ps : IsPart vs (some (-1)))
    (h : Q ((n : Int) - 1, -1, n) s) : wpAny (model prog w) A (Builtin.Slice.sliceApplied (.ref sl) (pure (n : Int))) Q E s := by
  obtain ⟨os, hos, hcs, hds⟩ := id hs
  unfold Builtin.Slice.sliceApplied Builtin.Slice.sliceFields
  refine wpAny_bind (wpAny_bind (wpAny_field hos hds (x := vl) rfl (wpAny_bind (wpAny_field hos hds (x := vu) rfl (wpAny_bind (wpAny_field hos hds (x := vs) rfl (wpAny_pure ?_)))))))
  refine wpAny_bind (HT.slicePart_ ps ?_)
  show wpAny _ _ (if ((-1 : Int) == 0) = true then _ else _) _ _ s
  rw [if_neg (by decide)]
  refine wpAny_bind (HT.slicePart_ pl (wpAny_bind (HT.slicePart_ pu (wpAny_bind (wpAny_pure ?_)))))
  show wpAny _ _ (match Builtin.Slice.sliceAdjust none none (-1) (n : Int) with | (lo, hi) => pure (lo, (-1 : Int), Builtin.Slice.slicePlaces lo hi (-1))) _ _ s
  rw [adjust_rev n]
  show wpAny _ _ (pure ((n : Int) - 1, (-1 : Int), Builtin.Slice.slicePlaces ((n : Int) - 1) (-1) (-1))) _ _ s
  rw [places_rev]
  exact wpAny_pure h
theorem pick_rev (xs : Array Value) : ((List.range xs.size).filterMap fun (m : Nat) => xs[((xs.size : Int) - 1 + (m : Int) * -1).toNat]?).toArray = xs.toList.reverse.toArray := by
  have h := PySem.W.krv_pick xs
  unfold slicePick at h
  rw [PySem.W.krv_bounds] at h
  rw [← h]
  show _ = ((sliceRange ((xs.size : Int) - 1) (-1) (-1)).filterMap (xs[·]?)).toArray
  rw [PySem.W.krv_sliceRange, List.filterMap_map]
  have go : ∀ (f g : Nat → Option Value) (l : List Nat), (∀ m ∈ l, f m = g m) → l.filterMap f = l.filterMap g := fun f g l => by
    induction l with
    | nil => exact fun _ => rfl
    | cons a l ih =>
      intro h
      rw [List.filterMap_cons, List.filterMap_cons, h a List.mem_cons_self, ih fun m hm => h m (List.mem_cons_of_mem _ hm)]
  rw [go _ _ _ fun m hm => ?_]
  have := List.mem_range.mp hm
  have e : ((xs.size : Int) - 1 + (m : Int) * -1).toNat = xs.size - 1 - m := by omega
  rw [e]
  rfl
theorem getItem_tuple_rev {t sl : Addr} {items : Array Value} {vl vu vs : Value} {Q : Value → Shared → Prop} (ht : IsTup s.heap t items) (hs : s.heap.IsSliceOf sl vl vu vs) (pl : IsPart vl none) (pu : IsPart vu none) (ps : IsPart vs (some (-1)))
    (h : Q (.ref s.heap.objs.size) { s with heap := s.heap.push { cls := .type "tuple", data := .seq items.toList.reverse.toArray } })
    (hsz : items.size ≤ sizeLine) : wpAny (model prog w) A (getItem (.ref t) (.ref sl)) Q E s := by
  have htake : sizeOk (.seq items.toList.reverse.toArray) := by
    show items.toList.reverse.toArray.size ≤ sizeLine
    rw [List.size_toArray, List.length_reverse, Array.length_toList]
    exact hsz
  obtain ⟨os, hos, hcs, hds⟩ := id hs
  have hTs : s.TypeIs (.ref sl) "slice" := ⟨os, hos, hcs⟩
  unfold getItem
  try with_reducible refine wpAny_holding ?_
  first | refine wpAny_bind (wpAny_pure ?_) | skip
  refine wpAny_bind (wpAny_sequenceKey ht.typeIs (by decide) ?_)
  refine wpAny_bind (wpAny_callSpecial?_slot (name := Str.ofString "__getitem__") ht.typeIs PyProof.Rows.slot_tuple_getitem
    (wpAny_call_entry PyProof.Rows.slot_tuple_getitem ht.typeIs entry_tuple_getitem ?_ (args_tuple_getitem _ _)))
  show wpAny _ _ (Builtin.Tuple.tupleItemsOf (.ref t) >>= _) _ _ s
  refine wpAny_bind (tupleItemsOf_ ht ?_)
  refine wpAny_bind (wpAny_typeOf hTs ?_)
  rw [if_pos (by decide)]
  refine wpAny_bind (sliceApplied_rev hs pl pu ps ?_)
  have hno : ¬ ((((items.size : Int) - 1) == 0 && (-1 : Int) == 1 && items.size == items.size) = true) := by
    have : ((-1 : Int) == 1) = false := by decide
    rw [this, Bool.and_false, Bool.false_and]
    exact Bool.false_ne_true
  show wpAny _ _ (if (((items.size : Int) - 1) == 0 && (-1 : Int) == 1 && items.size == items.size) = true then _ else _) _ _ s
  rw [if_neg hno, pick_rev]
  first
    | exact wpAny_bind (m := Builtin.Tuple.tupleExact _) (wpAny_newObj_type (wpAny_pure ⟨_, rfl, wpAny_pure h⟩) htake)
    | exact wpAny_bind (m := Builtin.Tuple.tupleExact _) (wpAny_newObj_type (wpAny_bind (wpAny_pure (wpAny_pure ⟨_, rfl, wpAny_pure h⟩))) htake)
    | exact wpAny_bind (wpAny_bind (m := Builtin.Tuple.tupleExact _) (wpAny_newObj_type (wpAny_pure (wpAny_pure ⟨_, rfl, wpAny_pure h⟩)) htake))
    | exact wpAny_bind (wpAny_bind (m := Builtin.Tuple.tupleExact _) (wpAny_newObj_type (wpAny_pure ⟨_, rfl, wpAny_pure h⟩) htake))
end
section
variable {X : Cx}
def tRevT (K : PySem.W.Frag) (te : TE) : TE := fun σ H Q => te σ H fun x H1 => ∃ a xs, x = .ref a ∧ SqT K H1 a xs ∧ NewF H1 xs.reverse Q
theorem pe_revT {e : Expr} {te : TE} {k : Nat} {p1 p2 p3 pos : Pos} (he : PE X e te) : PE X (.Subscript e (.Slice none none (some (.UnaryOp .USub (.Constant (.int 1) k p1) p2)) p3) pos) (tRevT X.K te) := by
  refine ⟨fun pins s σ H Q I h => ?_⟩
  refine Subscript_ (thn (he.run pins s σ H _ I h) fun v s1 ⟨x, H1, I1, r1, q1⟩ => ?_)
  obtain ⟨a, xs, ex, hx, q⟩ := q1
  subst ex
  cases r1
  have hst : PO X (some (.UnaryOp .USub (.Constant (.int 1) k p1) p2)) (tPart (tUn (rU fun i => .int (-i)) (tC (.int 1)))) := po_some (pe_un un_neg pe_int)
  refine wpAny_Slice (thn (po_none.run pins s1 σ H1 (fun o H2 => o = none ∧ H2 = H1) I1 ⟨rfl, rfl⟩) fun vl s2 ⟨l, H2, I2, pl, el, e2⟩ => ?_)
  subst el e2
  refine thn (po_none.run pins s2 σ H2 (fun o H3 => o = none ∧ H3 = H2) I2 ⟨rfl, rfl⟩) fun vu s3 ⟨u, H3, I3, pu, eu, e3⟩ => ?_
  subst eu e3
  refine thn (hst.run pins s3 σ H3 (fun o H4 => o = some (-1) ∧ H4 = H3) I3 ⟨1, rfl, -1, rfl, rfl, rfl⟩) fun vs s4 ⟨o, H4, I4, ps, eo, e4⟩ => ?_
  subst eo e4
  have I5 : Inv X pins σ H4 { s4 with heap := s4.heap.push { cls := .type "slice", data := .fields #[vl, vu, vs] } } := I4.kept (t' := s4.toks) fun b ob q => Heap.get?_push_of_some _ q
  obtain ⟨its, r, ht, hz⟩ := I5.tuple hx
  have hlen := r.length
  show wpAny (model X.prog X.w) X.A (subscriptTail e (.Slice none none (some (.UnaryOp .USub (.Constant (.int 1) k p1) p2)) p3) (.ref a) (.ref s4.heap.objs.size)) (EP X pins σ Q) X.xe { s4 with heap := s4.heap.push { cls := .type "slice", data := .fields #[vl, vu, vs] } }
  refine tail_any (ops := [.ref a, .ref s4.heap.objs.size]) ht.typeIs (PyProof.Rows.slot_tuple_getitem.lookup) ?_ (by with_unfolding_all rfl)
  refine getItem_tuple_rev ht (Heap.IsSliceOf.new _ vl vu vs) pl pu ps ?_ (by rw [List.size_toArray]; omega)
  rw [List.toList_toArray]
  exact new_f I5 (by rw [List.length_reverse]; exact hz) r.reverse q
def revD : D → M D
  | .tup ds => ret (.tup ds.reverse)
  | _ => fail
theorem reps_rev {K : PySem.W.Frag} {mu : List Addr} {H : Hp} : ∀ {vs : List V} {ds : List D}, Reps K mu H vs ds → Reps K mu H vs.reverse ds.reverse
  | _, _, .nil => .nil
  | _, _, .cons h t => by
    rw [List.reverse_cons, List.reverse_cons]
    exact (reps_rev t).append (.cons h .nil)
theorem se_revT {W : WX} {e : Expr} {m : Env → M D} {k : Nat} {p1 p2 p3 pos : Pos} (he : SE X W e m) : SE X W (.Subscript e (.Slice none none (some (.UnaryOp .USub (.Constant (.int 1) k p1) p2)) p3) pos) (m1 revD m) := peI (pe_revT he) fun σ H Q q => by
  obtain ⟨r, mu, S, hS, he, hp⟩ := q
  refine ⟨r, mu, S, hS, he, hp.bnd.imp fun x S1 mu1 H1 ex hS1 q1 v rv => ?_⟩
  cases x with
  | tup ds =>
    cases rv with
    | tup hd hq hr =>
      exact ⟨_, _, rfl, sqT_t hq, fun p o hp0 hd0 => q1 mu1 _ (ext_tup hp0) (hS1.tup hp0) _ (.tup hd0 upd_same ((reps_rev hr).mono (ext_tup hp0)))⟩
  | _ => exact q1.elim
/-! ### truths in sums -/
def addE : D → D → M D
  | .bl a, .int j => ret (.int ((if a then 1 else 0) + j))
  | x, y => addD x y
def subE : D → D → M D
  | .int i, .bl b => ret (.int (i - if b then 1 else 0))
  | x, y => subD x y
def rAddE (K : PySem.W.Frag) : R2 := fun x y H Q => (∃ a j, x = .bl a ∧ y = .int j ∧ Q (.int ((if a then 1 else 0) + j)) H) ∨ rAddAll K x y H Q
def rSubE : R2 := fun x y H Q => (∃ i b, x = .int i ∧ y = .bl b ∧ Q (.int (i - if b then 1 else 0)) H) ∨ rI0 (fun i j => .int (i - j)) x y H Q
theorem op_addBI : OpR X (binaryOp .Add) (fun x y H Q => ∃ a j, x = .bl a ∧ y = .int j ∧ Q (.int ((if a then 1 else 0) + j)) H) := by
  intro pins s σ H x y v u Q I rx ry h
  obtain ⟨a, j, rfl, rfl, q⟩ := h
  cases rx
  obtain ⟨t, rfl⟩ := ry
  exact PySem.IntBool.add_bool_int ⟨.int _, H, I.tok _, ⟨_, rfl⟩, q⟩
theorem op_subIB : OpR X (binaryOp .Sub) (fun x y H Q => ∃ i b, x = .int i ∧ y = .bl b ∧ Q (.int (i - if b then 1 else 0)) H) := by
  intro pins s σ H x y v u Q I rx ry h
  obtain ⟨a, j, rfl, rfl, q⟩ := h
  cases ry
  obtain ⟨t, rfl⟩ := rx
  exact PySem.IntBool.sub_int_bool ⟨.int _, H, I.tok _, ⟨_, rfl⟩, q⟩
theorem op_addE : OpR X (binaryOp .Add) (rAddE X.K) := op_addBI.or op_addAll
theorem op_subE : OpR X (binaryOp .Sub) rSubE := op_subIB.or op_sub
theorem o_addE {K : PySem.W.Frag} : Op2 K (rAddE K) addE := by
  intro W σ mu H S x y v w Q hS rx ry hp
  unfold addE at hp
  split at hp
  · cases rx
    cases ry
    exact .inl ⟨_, _, rfl, rfl, hp mu H Ext.refl hS _ (.int _)⟩
  · exact .inr (o_add W σ mu H S _ _ _ _ Q hS rx ry hp)
theorem o_subE {K : PySem.W.Frag} : Op2 K rSubE subE := by
  intro W σ mu H S x y v w Q hS rx ry hp
  unfold subE at hp
  split at hp
  · cases rx
    cases ry
    exact .inl ⟨_, _, rfl, rfl, hp mu H Ext.refl hS _ (.int _)⟩
  · exact .inr (o_sub W σ mu H S _ _ _ _ Q hS rx ry hp)
end
end Fa
namespace Fa
open PySem PySem.Spec PyProof.Rows L2 LamX
theorem fnV_gq {P : Program} {w : World} {K : PySem.W.Frag} {mg : Str → Option Value} {base : Heap} {k : Nat} {f : Addr} {F : List D → M D} (G : FnV P w K mg base k f F) : FnV P w K mg base k f (gq F) :=
  fun A outer s H us vs Q E hr hg e0 rv hp => G A outer s H us vs Q E hr hg e0 rv (prom_gq hp)
/-! ### try: x = e, except X as n: m = n -/
theorem ss_try {X : Cx} {W : WX} {nt nx nn nm : Str} {c : Value} {jt i j : Nat} {errs : List Str} {e : Expr} {m : Env → M D} {u1 u4 u5 u6 u7 u8 u9 u10 : Pos} (st : X.stack = X.env :: X.outer) (fr : X.env.frame = some X.env.locals) (hex : X.ex = []) (nd : X.N.Nodup)
    (hjt : X.N[jt]? = some nt) (lt : X.env.scope.names.lookup nt = some .local) (hi : X.N[i]? = some nn) (ln : X.env.kindOf nn = some .local) (hj : X.N[j]? = some nm) (lm : X.env.scope.names.lookup nm = some .local) (nc : Names X nx c) (tk : Takes X W)
    (herr : ∀ cn ∈ errs, ∀ C, ClsAt X.K cn C → PySem.W.exmOne X.K (.ref C) c = some true)
    (he : ∀ (W2 : WX) (pn : List (Addr × Obj)) (xe : Value → Shared → Prop), Takes (X.tr pn xe) W2 → SE (X.tr pn xe) W2 e m)
    (hsw : swapsWith e (some (.Name nt u1)) u4.line X.env = pure false := by rfl) (dn : (nn == ("__debug__" : Str)) = false := by decide) (dc : (nn == ("__classdict__" : Str)) = false := by decide) :
    SS X W (.Try [.Assign [.Name nt u1] e u4] [.ExceptHandler (some (.Name nx u5)) (some nn) [.Assign [.Name nm u6] (.Name nn u7) u8] u9] [] [] u10) (fun r => sTry jt i j errs (m r) r) :=
  psI (ps_try_hold (tb := fun W2 => tAsg (rdE X.K W2 m) (gName jt)) st fr hex nd hi hj ln lm nc tk dn dc (fun W2 pn xe tk2 po => pss_one (ps_set (X := X.tr pn xe) nd hjt (.inl lt) (he W2 pn xe tk2) hsw (.inr lt)))) fun D σ H q => by
    obtain ⟨r, mu, S, hS, hE, hp⟩ := q
    refine ⟨r, mu, S, hS, hE, ?_⟩
    have hp : PostO X.K W D mu H (sTry jt i j errs (m r) r S) := hp
    unfold sTry at hp
    cases em : m r S with
    | bad => rw [em] at hp; exact hp.elim
    | ok d S3 =>
      rw [em] at hp
      exact fun mu3 H3 ex3 hS3 v rv => hp mu3 H3 _ ex3 hS3 ((hE.mono ex3).set rv jt)
    | err y S3 =>
      rw [em] at hp
      by_cases hy : y.cn ∈ errs
      · simp only [if_pos hy] at hp
        refine fun mu3 H3 cls dd ex3 hS3 xr => ?_
        obtain ⟨⟨C, hC, rfl⟩, ad, fs, rfl, had, hkr⟩ := xr
        refine ⟨true, herr y.cn hy C hC, fun _ b oe hb hz hf => ?_, fun z => by cases z⟩
        obtain ⟨fv, hfv⟩ := hf
        have ex4 : Ext mu3 H3 mu3 (upd H3 b (exH b oe)) := ext_tup hb
        have hne : ad ≠ b := fun z => by rw [z, hb] at had; cases had
        obtain ⟨e1, e2⟩ := kreps_split hkr
        have rep : Rep X.K mu3 (upd H3 b (exH b oe)) (.ref b) (exnD y) := by
          refine .exn (oe := oe) (fv := fv) (vs := fs.map (·.2)) hC upd_same hz.1 hz.2 hfv ?_ (e2.mono ex4)
          rw [upd_ne hne, had, ← e1, zip_back]
        exact hp mu3 _ _ (ex3.trans ex4) (hS3.tup hb) (((((hE.mono ex3).mono ex4).any i).set rep j).any i)
      · simp only [if_neg hy] at hp
        exact hp.elim
end Fa
namespace Lw
open PySem PySem.Spec PyProof.Rows L2 Fa
noncomputable section
/-! FSPLIT -/
def F_l_is_int : List D → M D := fnM 1 1
    (sRet (mAnd (mA isiD (mCons (mVar 0) (mCons (mC (.ty "int")) mNil))) (mAnd (mNot (mA isiD (mCons (mVar 0) (mCons (mC (.ty "bool")) mNil)))) (m2 geD (mVar 0) (mC (.int 0))))))
def F_l_is_name : List D → M D := fnM 1 1
    (sRet (mAnd (mA isiD (mCons (mVar 0) (mCons (mC (.ty "str")) mNil))) (mAnd (mChain leD leD (mC (.int 1)) (mA lenD (mCons (mVar 0) mNil)) (mC (.int 8))) (m2 (eqB false) (mSM stripD (mVar 0) (mC (.str (PySem.Str.ofString "abcdefghijklmnopqrstuvwxyz")))) (mC (.str (PySem.Str.ofString "")))))))
def F_l_pot : List D → M D := fnM 4 2
    (sSeq (sAs (mIf (tOf (m2 ltD (mVar 1) (mA lenD (mCons (mVar 0) mNil)))) (m2 ixD (mVar 0) (mVar 1)) (m2 addD (m2 mulB (mC (.int 43)) (mVar 1)) (mC (.int 19)))) (gN 2))
    (sSeq (sAs (m2 mulB (m2 modD (mA intD (mCons (mA absD (mCons (mVar 2) mNil)) mNil)) (m2 powD (m2 powD (mC (.int 10)) (mC (.int 60))) (mC (.int 5)))) (mA intD (mCons (m2 geD (mA absD (mCons (mVar 2) mNil)) (m2 powD (mC (.int 10)) (mC (.int 18)))) mNil))) (gN 3))
    (sRet (mA lstD (mCons (mVar 3) (mCons (m2 modD (mA intD (mCons (m2 addD (m2 addD (m2 mulB (m2 modD (mA intD (mCons (mVar 2) mNil)) (mC (.int 2305843009213693951))) (mC (.int 70663))) (m2 mulB (m2 mulB (mC (.int 6421)) (mVar 1)) (mVar 1))) (mC (.int 83))) mNil)) (mC (.int 2305843009213693921))) (mCons (mC (.int 0)) mNil)))))))
def F_l_take : List D → M D := fnM 5 2
    (sSeq (sIf (tOf (m2 gtD (m2 ixD (mVar 0) (mC (.int 0))) (mC (.int 0)))) (sSeq (sAs (m2 modD (mA intD (mCons (m2 ixD (mVar 0) (mC (.int 0))) mNil)) (mVar 1)) (gN 2))
    (sSeq (sAs (m2 fdivD (m2 ixD (mVar 0) (mC (.int 0))) (mVar 1)) (gSubD (mVar 0) (mC (.int 0))))
    (sRet (mVar 2)))) sNx)
    (sSeq (sAs (m2 addD (m2 ixD (mVar 0) (mC (.int 2))) (mC (.int 1))) (gSubD (mVar 0) (mC (.int 2))))
    (sSeq (sAs (m2 ixD (mA lstD (mCons (mC (.int 2147483647)) (mCons (mC (.int 2147483629)) (mCons (mC (.int 2147483587)) (mCons (mC (.int 2147483579)) (mCons (mC (.int 2147483563)) mNil)))))) (m2 modD (mA intD (mCons (m2 ixD (mVar 0) (mC (.int 2))) mNil)) (mC (.int 5)))) (gN 3))
    (sSeq (sAs (m2 modD (mA intD (mCons (m2 powD (mA intD (mCons (m2 addD (m2 addD (m2 ixD (mVar 0) (mC (.int 1))) (m2 mulB (m2 mulB (mC (.int 99989)) (m2 ixD (mVar 0) (mC (.int 2)))) (m2 ixD (mVar 0) (mC (.int 2))))) (mC (.int 61))) mNil)) (mC (.int 3))) mNil)) (mVar 3)) (gN 4))
    (sSeq (sAs (m2 modD (mA intD (mCons (m2 mulB (mVar 4) (m2 addD (m2 modD (mA intD (mCons (mVar 4) mNil)) (mC (.int 10009))) (m2 mulB (mC (.int 91)) (m2 ixD (mVar 0) (mC (.int 2)))))) mNil)) (mC (.int 2305843009213693907))) (gN 4))
    (sRet (m2 modD (mA intD (mCons (m2 fdivD (mVar 4) (mC (.int 107))) mNil)) (mVar 1))))))))
def F_l_written : List D → M D := fnM 6 1
    (sSeq (sAs (mA lstD (mCons (m2 addD (m2 addD (mA strD (mCons (m2 ixD (m2 ixD (mVar 0) (mC (.int 0))) (mC (.int 0))) mNil)) (mC (.str (PySem.Str.ofString ".")))) (mA strD (mCons (m2 ixD (m2 ixD (mVar 0) (mC (.int 0))) (mC (.int 1))) mNil))) (mCons (m2 ixD (mVar 0) (mC (.int 1))) (mCons (m2 ixD (mVar 0) (mC (.int 2))) (mCons (mA strD (mCons (m2 ixD (mVar 0) (mC (.int 3))) mNil)) mNil))))) (gN 1))
    (sSeq (sFor (mSrc (m2 ixD (mVar 0) (mC (.int 4)))) (gT (gTc (gN 2) (gTc (gN 3) (gTc (gN 4) (gTc (gN 5) gT0))))) (sAs (m2 addD (mVar 1) (mA lstD (mCons (mC (.str (PySem.Str.ofString ">"))) (mCons (mA strD (mCons (mVar 2) mNil)) (mCons (mA strD (mCons (mVar 3) mNil)) (mCons (m2 addD (m2 addD (mA strD (mCons (m2 ixD (mVar 4) (mC (.int 0))) mNil)) (mC (.str (PySem.Str.ofString ".")))) (mA strD (mCons (m2 ixD (mVar 4) (mC (.int 1))) mNil))) (mCons (mA strD (mCons (mVar 5) mNil)) mNil))))))) (gN 1)))
    (sSeq (sFor (mSrc (m2 ixD (mVar 0) (mC (.int 5)))) (gN 5) (sAs (m2 addD (mVar 1) (mA lstD (mCons (mC (.str (PySem.Str.ofString ":"))) (mCons (mA strD (mCons (mVar 5) mNil)) mNil)))) (gN 1)))
    (sRet (mSM joinD (mC (.str (PySem.Str.ofString " "))) (mVar 1))))))
def F_is_count_stamps : List D → M D := fnM 1 1
    (sRet (mAnd (mA isiD (mCons (mVar 0) (mCons (mC (.ty "int")) mNil))) (mAnd (mNot (mA isiD (mCons (mVar 0) (mCons (mC (.ty "bool")) mNil)))) (m2 geD (mVar 0) (mC (.int 0))))))
def F_is_count_texts : List D → M D := fnM 1 1
    (sRet (mAnd (mA isiD (mCons (mVar 0) (mCons (mC (.ty "int")) mNil))) (mAnd (mNot (mA isiD (mCons (mVar 0) (mCons (mC (.ty "bool")) mNil)))) (m2 geD (mVar 0) (mC (.int 0))))))
def F_is_name : List D → M D := fnM 2 1
    (sSeq (sIf (Fa.tOr (tNt (tOf (mA isiD (mCons (mVar 0) (mCons (mC (.ty "str")) mNil))))) (tNt (tOf (mChain leD leD (mC (.int 1)) (mA lenD (mCons (mVar 0) mNil)) (mC (.int 8)))))) (sRet (mC (.bl false))) sNx)
    (sRet (mA allD (mCons (mLc (mSrc (mVar 0)) (gN 1) tT (m2 (inD false) (mVar 1) (mC (.str (PySem.Str.ofString "abcdefghijklmnopqrstuvwxyz")))) [1]) mNil))))
def F_line_of : List D → M D := varM (fnM 2 1
    (sRet (mSM joinD (mC (.str (PySem.Str.ofString " "))) (mLc (mSrc (mVar 0)) (gN 1) tT (mA strD (mCons (mVar 1) mNil)) [1]))))
def F_show_stamp : List D → M D := fnM 1 1
    (sRet (mIf (tOf (m2 (isN false) (mVar 0) (mC .non))) (mC (.str (PySem.Str.ofString "never"))) (mJs [(m1 fmtD (m2 ixD (mVar 0) (mC (.int 0)))), (mC (.str (PySem.Str.ofString "."))), (m1 fmtD (m2 ixD (mVar 0) (mC (.int 1))))] Str.empty)))
def F_l_is_moment : List D → M D := fnM 2 1
    (sRet (mAnd (mA isiD (mCons (mVar 0) (mCons (mC (.ty "tuple")) mNil))) (mAnd (m2 (eqB false) (mA lenD (mCons (mVar 0) mNil)) (mC (.int 2))) (mA allD (mCons (mLc (mSrc (mVar 0)) (gN 1) tT (mA (gq F_l_is_int) (mCons (mVar 1) mNil)) [1]) mNil)))))
def F_l_of : List D → M D := fnM 2 2
    (sRet (m2 ixD (mVar 1) (mA (gq F_l_take) (mCons (mVar 0) (mCons (mA lenD (mCons (mVar 1) mNil)) mNil)))))
def F_is_stamp : List D → M D := fnM 2 1
    (sRet (mAnd (mA isiD (mCons (mVar 0) (mCons (mC (.ty "tuple")) mNil))) (mAnd (m2 (eqB false) (mA lenD (mCons (mVar 0) mNil)) (mC (.int 2))) (mA allD (mCons (mLc (mSrc (mVar 0)) (gN 1) tT (mA (gq F_is_count_stamps) (mCons (mVar 1) mNil)) [1]) mNil)))))
def F_l_deed : List D → M D := fnM 8 1
    (sSeq (sPar 1 2 (mCons (mA tupD (mCons (mA (gq F_l_of) (mCons (mVar 0) (mCons (mA lstD (mCons (mC (.int 0)) (mCons (mC (.int 7)) (mCons (m2 powD (mC (.int 10)) (mC (.int 6))) mNil)))) mNil))) (mCons (mA (gq F_l_of) (mCons (mVar 0) (mCons (mA lstD (mCons (mC (.int 0)) (mCons (mC (.int 0)) (mCons (mC (.int 2)) mNil)))) mNil))) mNil))) (mCons (mA lstD mNil) mNil)))
    (sSeq (sFor (mRng1 (mCons (mA (gq F_l_of) (mCons (mVar 0) (mCons (mA lstD (mCons (mC (.int 0)) (mCons (mC (.int 0)) (mCons (mC (.int 1)) (mCons (mC (.int 2)) (mCons (mC (.int 3)) mNil)))))) mNil))) mNil)) (gN 3) (sSeq (sAs (mA tupD (mCons (mA (gq F_l_take) (mCons (mVar 0) (mCons (mC (.int 99)) mNil))) (mCons (mA (gq F_l_take) (mCons (mVar 0) (mCons (mC (.int 3)) mNil))) mNil))) (gN 4))
    (sEx (mLM appD (mVar 2) (mCons (mA tupD (mCons (mA (gq F_l_take) (mCons (mVar 0) (mCons (mC (.int 8)) mNil))) (mCons (mA (gq F_l_take) (mCons (mVar 0) (mCons (mC (.int 50)) mNil))) (mCons (mVar 4) (mCons (mA (gq F_l_take) (mCons (mVar 0) (mCons (mC (.int 6)) mNil))) mNil))))) mNil)))))
    (sSeq (sAs (mA tupleD (mCons (mLc (mRng1 (mCons (mA (gq F_l_of) (mCons (mVar 0) (mCons (mA lstD (mCons (mC (.int 0)) (mCons (mC (.int 0)) (mCons (mC (.int 1)) (mCons (mC (.int 4)) mNil))))) mNil))) mNil)) (gN 3) tT (mA (gq F_l_take) (mCons (mVar 0) (mCons (mC (.int 6)) mNil))) [3]) mNil)) (gN 5))
    (sSeq (sPar 6 7 (mCons (mA (gq F_l_of) (mCons (mVar 0) (mCons (mA lstD (mCons (mC (.str (PySem.Str.ofString "a"))) (mCons (mC (.str (PySem.Str.ofString "tap"))) (mCons (mC (.str (PySem.Str.ofString "abcdefgh"))) mNil)))) mNil))) (mCons (mA (gq F_l_of) (mCons (mVar 0) (mCons (mA lstD (mCons (mC (.str (PySem.Str.ofString "x"))) (mCons (mC (.str (PySem.Str.ofString "it"))) (mCons (mC (.str (PySem.Str.ofString "bell"))) mNil)))) mNil))) mNil)))
    (sRet (mA tupD (mCons (mVar 1) (mCons (mVar 6) (mCons (mVar 7) (mCons (mA (gq F_l_take) (mCons (mVar 0) (mCons (mC (.int 6)) mNil))) (mCons (mA tupleD (mCons (mVar 2) mNil)) (mCons (mVar 5) mNil))))))))))))
def F_l_is_letter : List D → M D := fnM 2 1
    (sSeq (sIf (Fa.tOr (tNt (tOf (mA isiD (mCons (mVar 0) (mCons (mC (.ty "tuple")) mNil))))) (Fa.tOr (tOf (m2 (eqB true) (mA lenD (mCons (mVar 0) mNil)) (mC (.int 4)))) (tNt (tOf (mA (gq F_l_is_moment) (mCons (m2 ixD (mVar 0) (mC (.int 2))) mNil)))))) (sRet (mC (.bl false))) sNx)
    (sRet (mA allD (mCons (mLc (mSrc (mA tupD (mCons (mC (.int 0)) (mCons (mC (.int 1)) (mCons (mC (.int 3)) mNil))))) (gN 1) tT (mA (gq F_l_is_int) (mCons (m2 ixD (mVar 0) (mVar 1)) mNil)) [1]) mNil))))
def F_l_odd : List D → M D := fnM 3 2
    (sSeq (sAs (mA lstD (mCons (mC .non) (mCons (mC (.bl true)) (mCons (mC (.bl false)) (mCons (mC (.int 0)) (mCons (mC (.int 1)) (mCons (m1 negD (mC (.int 1))) (mCons (m2 powD (mC (.int 10)) (mC (.int 8))) (mCons (mC (.str (PySem.Str.ofString ""))) (mCons (mC (.str (PySem.Str.ofString "a"))) (mCons (mC (.str (PySem.Str.ofString "A"))) (mCons (mC (.str (PySem.Str.ofString "a b"))) (mCons (mC (.str (PySem.Str.ofString "abcdefgh"))) (mCons (mC (.str (PySem.Str.ofString "abcdefghi"))) (mCons (mA tupD mNil) (mCons (mA lstD mNil) (mCons dct0D (mCons (mA tupD (mCons (mC (.int 0)) (mCons (mC (.int 0)) mNil))) mNil)))))))))))))))))) (gN 2))
    (sSeq (sIf (tOf (mA isiD (mCons (mVar 1) (mCons (mC (.ty "tuple")) mNil)))) (sAs (m2 addE (mVar 2) (m2 mulC' (mA lstD (mCons (mA listD (mCons (mVar 1) mNil)) (mCons (m2 addE (mVar 1) (mSl (mVar 1) mP0 (mP (mC (.int 1))))) (mCons (mSl (mVar 1) (mP (mC (.int 1))) mP0) (mCons (mSl (mVar 1) mP0 (mP (m1 negD (mC (.int 1))))) (mCons (m1 revD (mVar 1)) (mCons (mA tupD (mCons (mVar 1) mNil)) mNil))))))) (mC (.int 2)))) (gN 2)) sNx)
    (sSeq (sIf (tOf (mA isiD (mCons (mVar 1) (mCons (mC (.ty "int")) mNil)))) (sAs (m2 addE (mVar 2) (mA lstD (mCons (m2 addE (mVar 1) (mC (.int 1))) (mCons (m2 subE (mC (.int 0)) (mVar 1)) (mCons (mA strD (mCons (mVar 1) mNil)) (mCons (mA tupD (mCons (mVar 1) mNil)) mNil)))))) (gN 2)) sNx)
    (sRet (mA (gq F_l_of) (mCons (mVar 0) (mCons (mVar 2) mNil)))))))
def F_is_send : List D → M D := fnM 6 1
    (sSeq (sIf (Fa.tOr (tNt (tOf (mA isiD (mCons (mVar 0) (mCons (mC (.ty "tuple")) mNil))))) (tOf (m2 (eqB true) (mA lenD (mCons (mVar 0) mNil)) (mC (.int 4))))) (sRet (mC (.bl false))) sNx)
    (sSeq (sAs (mVar 0) (gT (gTc (gN 1) (gTc (gN 2) (gTc (gN 3) (gTc (gN 4) gT0))))))
    (sRet (mAnd (mA (gq F_is_stamp) (mCons (mVar 3) mNil)) (mA allD (mCons (mLc (mSrc (mA tupD (mCons (mVar 1) (mCons (mVar 2) (mCons (mVar 4) mNil))))) (gN 5) tT (mA (gq F_is_count_texts) (mCons (mVar 5) mNil)) [5]) mNil))))))
def F_l_is_deed : List D → M D := fnM 2 1
    (sSeq (sIf (Fa.tOr (tNt (tOf (mA isiD (mCons (mVar 0) (mCons (mC (.ty "tuple")) mNil))))) (Fa.tOr (tOf (m2 (eqB true) (mA lenD (mCons (mVar 0) mNil)) (mC (.int 6)))) (tNt (tOf (mA (gq F_l_is_moment) (mCons (m2 ixD (mVar 0) (mC (.int 0))) mNil)))))) (sRet (mC (.bl false))) sNx)
    (sSeq (sIf (Fa.tOr (tNt (tOf (mA (gq F_l_is_name) (mCons (m2 ixD (mVar 0) (mC (.int 1))) mNil)))) (Fa.tOr (tNt (tOf (mA (gq F_l_is_name) (mCons (m2 ixD (mVar 0) (mC (.int 2))) mNil)))) (tNt (tOf (mA (gq F_l_is_int) (mCons (m2 ixD (mVar 0) (mC (.int 3))) mNil)))))) (sRet (mC (.bl false))) sNx)
    (sSeq (sIf (Fa.tOr (tNt (tOf (mA isiD (mCons (m2 ixD (mVar 0) (mC (.int 4))) (mCons (mC (.ty "tuple")) mNil))))) (tNt (tOf (mA allD (mCons (mLc (mSrc (m2 ixD (mVar 0) (mC (.int 4)))) (gN 1) tT (mA (gq F_l_is_letter) (mCons (mVar 1) mNil)) [1]) mNil))))) (sRet (mC (.bl false))) sNx)
    (sRet (mAnd (mA isiD (mCons (m2 ixD (mVar 0) (mC (.int 5))) (mCons (mC (.ty "tuple")) mNil))) (mA allD (mCons (mLc (mSrc (m2 ixD (mVar 0) (mC (.int 5)))) (gN 1) tT (mA (gq F_l_is_int) (mCons (mVar 1) mNil)) [1]) mNil)))))))
def F_is_deed : List D → M D := fnM 8 1
    (sSeq (sIf (Fa.tOr (tNt (tOf (mA isiD (mCons (mVar 0) (mCons (mC (.ty "tuple")) mNil))))) (tOf (m2 (eqB true) (mA lenD (mCons (mVar 0) mNil)) (mC (.int 6))))) (sRet (mC (.bl false))) sNx)
    (sSeq (sAs (mVar 0) (gT (gTc (gN 1) (gTc (gN 2) (gTc (gN 3) (gTc (gN 4) (gTc (gN 5) (gTc (gN 6) gT0))))))))
    (sSeq (sIf (Fa.tOr (tNt (tOf (mA (gq F_is_stamp) (mCons (mVar 1) mNil)))) (Fa.tOr (tNt (tOf (mA (gq F_is_name) (mCons (mVar 2) mNil)))) (Fa.tOr (tNt (tOf (mA (gq F_is_name) (mCons (mVar 3) mNil)))) (tNt (tOf (mA (gq F_is_count_texts) (mCons (mVar 4) mNil))))))) (sRet (mC (.bl false))) sNx)
    (sSeq (sIf (Fa.tOr (tNt (tOf (mA isiD (mCons (mVar 5) (mCons (mC (.ty "tuple")) mNil))))) (tNt (tOf (mA isiD (mCons (mVar 6) (mCons (mC (.ty "tuple")) mNil)))))) (sRet (mC (.bl false))) sNx)
    (sRet (mAnd (mA allD (mCons (mLc (mSrc (mVar 5)) (gN 7) tT (mA (gq F_is_send) (mCons (mVar 7) mNil)) [7]) mNil)) (mA allD (mCons (mLc (mSrc (mVar 6)) (gN 7) tT (mA (gq F_is_count_texts) (mCons (mVar 7) mNil)) [7]) mNil))))))))
def F_show_deed : List D → M D := fnM 13 1
    (sSeq (sIf (tNt (tOf (mA (gq F_is_deed) (mCons (mVar 0) mNil)))) (sRaise "BadValue" "value" (mVar 0)) sNx)
    (sSeq (sAs (mVar 0) (gT (gTc (gN 1) (gTc (gN 2) (gTc (gN 3) (gTc (gN 4) (gTc (gN 5) (gTc (gN 6) gT0))))))))
    (sSeq (sAs (mA lstD (mCons (mA (gq F_line_of) (mCons (mA (gq F_show_stamp) (mCons (mVar 1) mNil)) (mCons (mVar 2) (mCons (mVar 3) (mCons (mVar 4) mNil))))) mNil)) (gN 7))
    (sSeq (sEx (mLM extD (mVar 7) (mCons (mLc (mSrc (mVar 5)) (gT (gTc (gN 8) (gTc (gN 9) (gTc (gN 10) (gTc (gN 11) gT0))))) tT (mA (gq F_line_of) (mCons (mC (.str (PySem.Str.ofString ">"))) (mCons (mVar 8) (mCons (mVar 9) (mCons (mA (gq F_show_stamp) (mCons (mVar 10) mNil)) (mCons (mVar 11) mNil)))))) [8, 9, 10, 11]) mNil)))
    (sSeq (sEx (mLM extD (mVar 7) (mCons (mLc (mSrc (mVar 6)) (gN 12) tT (mA (gq F_line_of) (mCons (mC (.str (PySem.Str.ofString ":"))) (mCons (mVar 12) mNil))) [12]) mNil)))
    (sRet (mSM joinD (mC (.str (PySem.Str.ofString " "))) (mVar 7))))))))
def F_l_kept : List D → M D := fnM 5 1
    (sSeq (sAs (mA tupD (mCons (mC .non) (mCons (mC .non) mNil))) (gT (gTc (gN 1) (gTc (gN 2) gT0))))
    (sSeq (fun r => sTry 2 3 1 ["BadModel", "BadValue"] ((mA (gq F_show_deed) (mCons (mVar 0) mNil)) r) r)
    (sSeq (sIf (tOf (m2 (isN false) (mVar 1) (mC .non))) (sRet (mA tupD (mCons (mC (.str (PySem.Str.ofString "told"))) (mCons (mVar 2) mNil)))) sNx)
    (sSeq (sAs (mAnd (m1 (isxD [("BadModel", false), ("BadValue", true)]) (mVar 1)) (mAnd (mNot (m1 (isxD [("BadModel", true), ("BadValue", false)]) (mVar 1))) (m1 (isxD [("BadModel", true), ("BadValue", true)]) (mVar 1)))) (gN 4))
    (sRet (mIf (tOf (mVar 4)) (mA tupD (mCons (mC (.str (PySem.Str.ofString "value"))) (mCons (m1 (xfD "value" ["BadModel", "BadValue"]) (mVar 1)) mNil))) (mA tupD (mCons (mC (.str (PySem.Str.ofString "other"))) (mCons (mC .non) mNil)))))))))
mutual
def F_l_bent : Nat → List D → M D
  | 0 => noF
  | n + 1 => fnM 4 3
    (sSeq (sIf (Fa.tOr (tOf (m2 (eqB false) (mVar 2) (mC (.int 0)))) (Fa.tOr (tNt (tOf (mA isiD (mCons (mVar 1) (mCons (mC (.ty "tuple")) mNil))))) (Fa.tOr (tOf (m2 eqE (mVar 1) (mA tupD mNil))) (tOf (m2 (eqB false) (mA (gq F_l_take) (mCons (mVar 0) (mCons (mC (.int 5)) mNil))) (mC (.int 0))))))) (sRet (mA F_l_odd (mCons (mVar 0) (mCons (mVar 1) mNil)))) sNx)
    (sSeq (sAs (mA (gq F_l_take) (mCons (mVar 0) (mCons (mA lenD (mCons (mVar 1) mNil)) mNil))) (gN 3))
    (sRet (m2 addD (m2 addD (mSl (mVar 1) mP0 (mP (mVar 3))) (mA tupD (mCons (mA (F_l_bent n) (mCons (mVar 0) (mCons (m2 ixD (mVar 1) (mVar 3)) (mCons (m2 subD (mVar 2) (mC (.int 1))) mNil)))) mNil))) (mSl (mVar 1) (mP (m2 addD (mVar 3) (mC (.int 1)))) mP0)))))
end
theorem A_l_bent : ∀ n, arity 3 (F_l_bent n)
  | 0 => by rw [F_l_bent]; exact noF_arity
  | n + 1 => by rw [F_l_bent]; exact fnM_arity
def F_l_right : List D → M D := fnM 6 1
    (sSeq (sAs (mA (gq F_l_deed) (mCons (mVar 0) mNil)) (gN 1))
    (sSeq (sAs (mA (F_l_bent 8) (mCons (mVar 0) (mCons (mVar 1) (mCons (mC (.int 4)) mNil)))) (gN 2))
    (sSeq (sFor (mSrc (mA lstD (mCons (mVar 1) (mCons (mVar 2) (mCons (mA (F_l_bent 8) (mCons (mVar 0) (mCons (mVar 2) (mCons (mC (.int 4)) mNil)))) (mCons (mA F_l_odd (mCons (mVar 0) (mCons (mA tupD mNil) mNil))) mNil)))))) (gN 3) (sSeq (sAs (mA reprX (mCons (mVar 3) mNil)) (gN 4))
    (sSeq (sAs (mIf (tOf (mA (gq F_l_is_deed) (mCons (mVar 3) mNil))) (mA tupD (mCons (mC (.str (PySem.Str.ofString "told"))) (mCons (mA (gq F_l_written) (mCons (mVar 3) mNil)) mNil))) (mA tupD (mCons (mC (.str (PySem.Str.ofString "value"))) (mCons (mVar 3) mNil)))) (gN 5))
    (sIf (Fa.tOr (tOf (m2 (eqB true) (mA reprX (mCons (mA (gq F_l_kept) (mCons (mVar 3) mNil)) mNil)) (mA reprX (mCons (mVar 5) mNil)))) (tOf (m2 (eqB true) (mA reprX (mCons (mVar 3) mNil)) (mVar 4)))) (sRet (mC (.bl false))) sNx))))
    (sRet (m2 (eqB false) (mA (kwF 1 [0] (gq F_show_deed)) (mCons (mVar 1) mNil)) (mA (gq F_l_written) (mCons (mVar 1) mNil)))))))
def F_law : List D → M D := fnM 4 1
    (sSeq (sFor (mRng1 (mCons (mA maxD (mCons (mC (.int 1)) (mCons (mA minD (mCons (mC (.int 3)) (mCons (mA lenD (mCons (mVar 0) mNil)) mNil))) mNil))) mNil)) (gN 1) (sSeq (sAs (mA (gq F_l_pot) (mCons (mVar 0) (mCons (mVar 1) mNil))) (gN 2))
    (sIf (tNt (tOf (mA allD (mCons (mLc (mRng1 (mCons (mC (.int 30)) mNil)) (gN 3) tT (mA (gq F_l_right) (mCons (mVar 2) mNil)) [3]) mNil)))) (sRet (mC (.bl false))) sNx)))
    (sRet (mC (.bl true))))
end
end Lw
namespace Lw
open PySem PySem.Spec PyProof.Rows L2 Fa
def topS (i : Nat) : Stmt := PySem.Challenge.pw_farasnothing_k90_deeds_written.main.body.getD i (.Pass ⟨0, 0, 0, 0⟩)
abbrev n_is_name : List Str := ["value", "sign"]
theorem sc_is_name : FnScope n_is_name ["value"] (defScope (topS 7)) := ⟨rfl, rfl, rfl, by decide +kernel, rfl, by decide +kernel, by decide +kernel⟩
abbrev n_is_count_stamps : List Str := ["value"]
theorem sc_is_count_stamps : FnScope n_is_count_stamps ["value"] (defScope (topS 10)) := ⟨rfl, rfl, rfl, by decide +kernel, rfl, by decide +kernel, by decide +kernel⟩
abbrev n_is_stamp : List Str := ["value", "part"]
theorem sc_is_stamp : FnScope n_is_stamp ["value"] (defScope (topS 12)) := ⟨rfl, rfl, rfl, by decide +kernel, rfl, by decide +kernel, by decide +kernel⟩
abbrev n_show_stamp : List Str := ["stamp"]
theorem sc_show_stamp : FnScope n_show_stamp ["stamp"] (defScope (topS 18)) := ⟨rfl, rfl, rfl, by decide +kernel, rfl, by decide +kernel, by decide +kernel⟩
abbrev n_line_of : List Str := ["parts", "part"]
theorem sc_line_of : FnScope n_line_of ["parts"] (defScope (topS 19)) := ⟨rfl, rfl, rfl, by decide +kernel, rfl, by decide +kernel, by decide +kernel⟩
abbrev n_is_count_texts : List Str := ["value"]
theorem sc_is_count_texts : FnScope n_is_count_texts ["value"] (defScope (topS 20)) := ⟨rfl, rfl, rfl, by decide +kernel, rfl, by decide +kernel, by decide +kernel⟩
abbrev n_is_send : List Str := ["value", "line", "number", "stamp", "worth", "part"]
theorem sc_is_send : FnScope n_is_send ["value"] (defScope (topS 22)) := ⟨rfl, rfl, rfl, by decide +kernel, rfl, by decide +kernel, by decide +kernel⟩
abbrev n_is_deed : List Str := ["value", "stamp", "station", "name", "worth", "sends", "said", "part"]
theorem sc_is_deed : FnScope n_is_deed ["value"] (defScope (topS 23)) := ⟨rfl, rfl, rfl, by decide +kernel, rfl, by decide +kernel, by decide +kernel⟩
abbrev n_show_deed : List Str := ["deed", "stamp", "station", "name", "worth", "sends", "said", "found", "line", "number", "at", "sent", "one"]
theorem sc_show_deed : FnScope n_show_deed ["deed"] (defScope (topS 24)) := ⟨rfl, rfl, rfl, by decide +kernel, rfl, by decide +kernel, by decide +kernel⟩
abbrev n_l_pot : List Str := ["_law_script", "_law_k", "_law_cell", "_law_own"]
theorem sc_l_pot : FnScope n_l_pot ["_law_script", "_law_k"] (defScope (topS 26)) := ⟨rfl, rfl, rfl, by decide +kernel, rfl, by decide +kernel, by decide +kernel⟩
abbrev n_l_take : List Str := ["_law_pot_here", "_law_upto", "_law_digit", "_law_prime", "_law_mixed"]
theorem sc_l_take : FnScope n_l_take ["_law_pot_here", "_law_upto"] (defScope (topS 27)) := ⟨rfl, rfl, rfl, by decide +kernel, rfl, by decide +kernel, by decide +kernel⟩
abbrev n_l_of : List Str := ["_law_pot_here", "_law_some"]
theorem sc_l_of : FnScope n_l_of ["_law_pot_here", "_law_some"] (defScope (topS 28)) := ⟨rfl, rfl, rfl, by decide +kernel, rfl, by decide +kernel, by decide +kernel⟩
abbrev n_l_is_int : List Str := ["_law_thing"]
theorem sc_l_is_int : FnScope n_l_is_int ["_law_thing"] (defScope (topS 29)) := ⟨rfl, rfl, rfl, by decide +kernel, rfl, by decide +kernel, by decide +kernel⟩
abbrev n_l_is_name : List Str := ["_law_thing"]
theorem sc_l_is_name : FnScope n_l_is_name ["_law_thing"] (defScope (topS 30)) := ⟨rfl, rfl, rfl, by decide +kernel, rfl, by decide +kernel, by decide +kernel⟩
abbrev n_l_is_moment : List Str := ["_law_thing", "_law_part"]
theorem sc_l_is_moment : FnScope n_l_is_moment ["_law_thing"] (defScope (topS 31)) := ⟨rfl, rfl, rfl, by decide +kernel, rfl, by decide +kernel, by decide +kernel⟩
abbrev n_l_is_letter : List Str := ["_law_thing", "_law_at"]
theorem sc_l_is_letter : FnScope n_l_is_letter ["_law_thing"] (defScope (topS 32)) := ⟨rfl, rfl, rfl, by decide +kernel, rfl, by decide +kernel, by decide +kernel⟩
abbrev n_l_is_deed : List Str := ["_law_thing", "_law_part"]
theorem sc_l_is_deed : FnScope n_l_is_deed ["_law_thing"] (defScope (topS 33)) := ⟨rfl, rfl, rfl, by decide +kernel, rfl, by decide +kernel, by decide +kernel⟩
abbrev n_l_written : List Str := ["_law_thing", "_law_words", "_law_line", "_law_number", "_law_moment", "_law_worth"]
theorem sc_l_written : FnScope n_l_written ["_law_thing"] (defScope (topS 34)) := ⟨rfl, rfl, rfl, by decide +kernel, rfl, by decide +kernel, by decide +kernel⟩
abbrev n_l_odd : List Str := ["_law_pot_here", "_law_thing", "_law_some"]
theorem sc_l_odd : FnScope n_l_odd ["_law_pot_here", "_law_thing"] (defScope (topS 35)) := ⟨rfl, rfl, rfl, by decide +kernel, rfl, by decide +kernel, by decide +kernel⟩
abbrev n_l_bent : List Str := ["_law_pot_here", "_law_thing", "_law_deep", "_law_at"]
theorem sc_l_bent : FnScope n_l_bent ["_law_pot_here", "_law_thing", "_law_deep"] (defScope (topS 36)) := ⟨rfl, rfl, rfl, by decide +kernel, rfl, by decide +kernel, by decide +kernel⟩
abbrev n_l_deed : List Str := ["_law_pot_here", "_law_moment", "_law_letters", "_law_turn", "_law_when", "_law_said", "_law_name", "_law_other"]
theorem sc_l_deed : FnScope n_l_deed ["_law_pot_here"] (defScope (topS 37)) := ⟨rfl, rfl, rfl, by decide +kernel, rfl, by decide +kernel, by decide +kernel⟩
abbrev n_l_kept : List Str := ["_law_thing", "_law_caught", "_law_told", "error", "_law_fine"]
theorem sc_l_kept : FnScope n_l_kept ["_law_thing"] (defScope (topS 38)) := ⟨rfl, rfl, rfl, by decide +kernel, rfl, by decide +kernel, by decide +kernel⟩
abbrev n_l_right : List Str := ["_law_pot_here", "_law_made", "_law_bent_here", "_law_thing", "_law_kept_here", "_law_due"]
theorem sc_l_right : FnScope n_l_right ["_law_pot_here"] (defScope (topS 39)) := ⟨rfl, rfl, rfl, by decide +kernel, rfl, by decide +kernel, by decide +kernel⟩
abbrev n_law : List Str := ["_law_script", "_law_k", "_law_pot_here", "_law_turn"]
theorem sc_law : FnScope n_law ["_law_script"] (defScope (topS 40)) := ⟨rfl, rfl, rfl, by decide +kernel, rfl, by decide +kernel, by decide +kernel⟩
/-! FEND -/
structure Tx (P : Program) (w : World) (K : PySem.W.Frag) (mg : Str → Option Value) where
  f_is_name : Addr
  d_is_name : FuncData
  u_is_name : Fun K "is_name" "is_name" (topS 7) f_is_name d_is_name
  g_is_name : mg "is_name" = some (.ref f_is_name)
  b_is_name : Binds K d_is_name ["value"] []
  f_is_count_stamps : Addr
  d_is_count_stamps : FuncData
  u_is_count_stamps : Fun K "is_count" "is_count" (topS 10) f_is_count_stamps d_is_count_stamps
  g_is_count_stamps : mg "is_count_stamps" = some (.ref f_is_count_stamps)
  b_is_count_stamps : Binds K d_is_count_stamps ["value"] []
  f_is_stamp : Addr
  d_is_stamp : FuncData
  u_is_stamp : Fun K "is_stamp" "is_stamp" (topS 12) f_is_stamp d_is_stamp
  g_is_stamp : mg "is_stamp" = some (.ref f_is_stamp)
  b_is_stamp : Binds K d_is_stamp ["value"] []
  f_show_stamp : Addr
  d_show_stamp : FuncData
  u_show_stamp : Fun K "show_stamp" "show_stamp" (topS 18) f_show_stamp d_show_stamp
  g_show_stamp : mg "show_stamp" = some (.ref f_show_stamp)
  b_show_stamp : Binds K d_show_stamp ["stamp"] []
  f_line_of : Addr
  d_line_of : FuncData
  u_line_of : Fun K "line_of" "line_of" (topS 19) f_line_of d_line_of
  g_line_of : mg "line_of" = some (.ref f_line_of)
  v_line_of : ∀ rest : List Value, bindArgs d_line_of ⟨rest, []⟩ = (newTuple rest >>= fun t => pure [(("parts" : Str), t)])
  f_is_count_texts : Addr
  d_is_count_texts : FuncData
  u_is_count_texts : Fun K "is_count" "is_count" (topS 20) f_is_count_texts d_is_count_texts
  g_is_count_texts : mg "is_count_texts" = some (.ref f_is_count_texts)
  b_is_count_texts : Binds K d_is_count_texts ["value"] []
  f_is_send : Addr
  d_is_send : FuncData
  u_is_send : Fun K "is_send" "is_send" (topS 22) f_is_send d_is_send
  g_is_send : mg "is_send" = some (.ref f_is_send)
  b_is_send : Binds K d_is_send ["value"] []
  f_is_deed : Addr
  d_is_deed : FuncData
  u_is_deed : Fun K "is_deed" "is_deed" (topS 23) f_is_deed d_is_deed
  g_is_deed : mg "is_deed" = some (.ref f_is_deed)
  b_is_deed : Binds K d_is_deed ["value"] []
  f_show_deed : Addr
  d_show_deed : FuncData
  u_show_deed : Fun K "show_deed" "show_deed" (topS 24) f_show_deed d_show_deed
  g_show_deed : mg "show_deed" = some (.ref f_show_deed)
  b_show_deed : Binds K d_show_deed ["deed"] []
  f_l_pot : Addr
  d_l_pot : FuncData
  u_l_pot : Fun K "_law_pot" "_law_pot" (topS 26) f_l_pot d_l_pot
  g_l_pot : mg "_law_pot" = some (.ref f_l_pot)
  b_l_pot : Binds K d_l_pot ["_law_script", "_law_k"] []
  f_l_take : Addr
  d_l_take : FuncData
  u_l_take : Fun K "_law_take" "_law_take" (topS 27) f_l_take d_l_take
  g_l_take : mg "_law_take" = some (.ref f_l_take)
  b_l_take : Binds K d_l_take ["_law_pot_here", "_law_upto"] []
  f_l_of : Addr
  d_l_of : FuncData
  u_l_of : Fun K "_law_of" "_law_of" (topS 28) f_l_of d_l_of
  g_l_of : mg "_law_of" = some (.ref f_l_of)
  b_l_of : Binds K d_l_of ["_law_pot_here", "_law_some"] []
  f_l_is_int : Addr
  d_l_is_int : FuncData
  u_l_is_int : Fun K "_law_is_int" "_law_is_int" (topS 29) f_l_is_int d_l_is_int
  g_l_is_int : mg "_law_is_int" = some (.ref f_l_is_int)
  b_l_is_int : Binds K d_l_is_int ["_law_thing"] []
  f_l_is_name : Addr
  d_l_is_name : FuncData
  u_l_is_name : Fun K "_law_is_name" "_law_is_name" (topS 30) f_l_is_name d_l_is_name
  g_l_is_name : mg "_law_is_name" = some (.ref f_l_is_name)
  b_l_is_name : Binds K d_l_is_name ["_law_thing"] []
  f_l_is_moment : Addr
  d_l_is_moment : FuncData
  u_l_is_moment : Fun K "_law_is_moment" "_law_is_moment" (topS 31) f_l_is_moment d_l_is_moment
  g_l_is_moment : mg "_law_is_moment" = some (.ref f_l_is_moment)
  b_l_is_moment : Binds K d_l_is_moment ["_law_thing"] []
  f_l_is_letter : Addr
  d_l_is_letter : FuncData
  u_l_is_letter : Fun K "_law_is_letter" "_law_is_letter" (topS 32) f_l_is_letter d_l_is_letter
  g_l_is_letter : mg "_law_is_letter" = some (.ref f_l_is_letter)
  b_l_is_letter : Binds K d_l_is_letter ["_law_thing"] []
  f_l_is_deed : Addr
  d_l_is_deed : FuncData
  u_l_is_deed : Fun K "_law_is_deed" "_law_is_deed" (topS 33) f_l_is_deed d_l_is_deed
  g_l_is_deed : mg "_law_is_deed" = some (.ref f_l_is_deed)
  b_l_is_deed : Binds K d_l_is_deed ["_law_thing"] []
  f_l_written : Addr
  d_l_written : FuncData
  u_l_written : Fun K "_law_written" "_law_written" (topS 34) f_l_written d_l_written
  g_l_written : mg "_law_written" = some (.ref f_l_written)
  b_l_written : Binds K d_l_written ["_law_thing"] []
  f_l_odd : Addr
  d_l_odd : FuncData
  u_l_odd : Fun K "_law_odd" "_law_odd" (topS 35) f_l_odd d_l_odd
  g_l_odd : mg "_law_odd" = some (.ref f_l_odd)
  b_l_odd : Binds K d_l_odd ["_law_pot_here", "_law_thing"] []
  f_l_bent : Addr
  d_l_bent : FuncData
  u_l_bent : Fun K "_law_bent" "_law_bent" (topS 36) f_l_bent d_l_bent
  g_l_bent : mg "_law_bent" = some (.ref f_l_bent)
  b_l_bent : Binds K d_l_bent ["_law_pot_here", "_law_thing", "_law_deep"] []
  f_l_deed : Addr
  d_l_deed : FuncData
  u_l_deed : Fun K "_law_deed" "_law_deed" (topS 37) f_l_deed d_l_deed
  g_l_deed : mg "_law_deed" = some (.ref f_l_deed)
  b_l_deed : Binds K d_l_deed ["_law_pot_here"] []
  f_l_kept : Addr
  d_l_kept : FuncData
  u_l_kept : Fun K "_law_kept" "_law_kept" (topS 38) f_l_kept d_l_kept
  g_l_kept : mg "_law_kept" = some (.ref f_l_kept)
  b_l_kept : Binds K d_l_kept ["_law_thing"] []
  f_l_right : Addr
  d_l_right : FuncData
  u_l_right : Fun K "_law_right" "_law_right" (topS 39) f_l_right d_l_right
  g_l_right : mg "_law_right" = some (.ref f_l_right)
  b_l_right : Binds K d_l_right ["_law_pot_here"] []
  f_law : Addr
  d_law : FuncData
  u_law : Fun K "law" "law" (topS 40) f_law d_law
  g_law : mg "law" = some (.ref f_law)
  b_law : Binds K d_law ["_law_script"] []
  C_BadModel : Addr
  fI_BadModel : Addr
  fd_BadModel : FuncData
  g_BadModel : mg "BadModel" = some (.ref C_BadModel)
  ca_BadModel : ClsAt K "BadModel" C_BadModel
  e_BadModel : ErrC P K mg C_BadModel fI_BadModel fd_BadModel "value" "value"
  b_BadModel : Binds K fd_BadModel ["self", "value"] []
  xf_BadModel : XfC K C_BadModel
  ec_BadModel : ExcC K C_BadModel
  C_BadValue : Addr
  fI_BadValue : Addr
  fd_BadValue : FuncData
  g_BadValue : mg "BadValue" = some (.ref C_BadValue)
  ca_BadValue : ClsAt K "BadValue" C_BadValue
  e_BadValue : ErrC P K mg C_BadValue fI_BadValue fd_BadValue "value" "value"
  b_BadValue : Binds K fd_BadValue ["self", "value"] []
  xf_BadValue : XfC K C_BadValue
  ec_BadValue : ExcC K C_BadValue
  C_FarError : Addr
  g_FarError : mg "FarError" = some (.ref C_FarError)
  xm_BadModel_FarError : PySem.W.exmOne K (.ref C_BadModel) (.ref C_FarError) = some true
  kt_BadModel_BadValue : PySem.W.kitOne K (.ref C_BadModel) (.ref C_BadValue) = some false
  kt_BadModel_BadModel : PySem.W.kitOne K (.ref C_BadModel) (.ref C_BadModel) = some true
  kt_BadModel_ValueError : PySem.W.kitOne K (.ref C_BadModel) (.type "ValueError") = some true
  xm_BadValue_FarError : PySem.W.exmOne K (.ref C_BadValue) (.ref C_FarError) = some true
  kt_BadValue_BadValue : PySem.W.kitOne K (.ref C_BadValue) (.ref C_BadValue) = some true
  kt_BadValue_BadModel : PySem.W.kitOne K (.ref C_BadValue) (.ref C_BadModel) = some false
  kt_BadValue_ValueError : PySem.W.kitOne K (.ref C_BadValue) (.type "ValueError") = some true
  z_ValueError : mg "ValueError" = none
  z_abs : mg "abs" = none
  z_all : mg "all" = none
  z_bool : mg "bool" = none
  z_int : mg "int" = none
  z_isinstance : mg "isinstance" = none
  z_len : mg "len" = none
  z_list : mg "list" = none
  z_max : mg "max" = none
  z_min : mg "min" = none
  z_range : mg "range" = none
  z_repr : mg "repr" = none
  z_str : mg "str" = none
  z_tuple : mg "tuple" = none
  t_BLANK : Tok
  c_BLANK : mg "BLANK" = some (.str (PySem.Str.ofString " ") t_BLANK)
  t_DEED_PARTS : Tok
  c_DEED_PARTS : mg "DEED_PARTS" = some (.int 6 t_DEED_PARTS)
  t_LETTERS : Tok
  c_LETTERS : mg "LETTERS" = some (.str (PySem.Str.ofString "abcdefghijklmnopqrstuvwxyz") t_LETTERS)
  t_MOST_LETTERS : Tok
  c_MOST_LETTERS : mg "MOST_LETTERS" = some (.int 8 t_MOST_LETTERS)
  t_NEVER : Tok
  c_NEVER : mg "NEVER" = some (.str (PySem.Str.ofString "never") t_NEVER)
  t_PARTS : Tok
  c_PARTS : mg "PARTS" = some (.int 2 t_PARTS)
  t_SEND_PARTS : Tok
  c_SEND_PARTS : mg "SEND_PARTS" = some (.int 4 t_SEND_PARTS)
section
variable {P : Program} {w : World} {K : PySem.W.Frag} {mg : Str → Option Value} {base : Heap} (T : Tx P w K mg)
include T
theorem her_FarError : ∀ cn ∈ (["BadModel", "BadValue"] : List Str), ∃ C, ClsAt K cn C ∧ PySem.W.exmOne K (.ref C) (.ref T.C_FarError) = some true := by
  intro p hp
  simp only [List.mem_cons, List.not_mem_nil, or_false] at hp
  rcases hp with rfl | rfl
  · exact ⟨T.C_BadModel, T.ca_BadModel, T.xm_BadModel_FarError⟩
  · exact ⟨T.C_BadValue, T.ca_BadValue, T.xm_BadValue_FarError⟩
theorem isx_BadValue : ∀ p ∈ ([("BadModel", false), ("BadValue", true)] : List (Str × Bool)), ∃ C, ClsAt K p.1 C ∧ ExcC K C ∧ PySem.W.kitOne K (.ref C) (.ref T.C_BadValue) = some p.2 := by
  intro p hp
  simp only [List.mem_cons, List.not_mem_nil, or_false] at hp
  rcases hp with rfl | rfl
  · exact ⟨T.C_BadModel, T.ca_BadModel, T.ec_BadModel, T.kt_BadModel_BadValue⟩
  · exact ⟨T.C_BadValue, T.ca_BadValue, T.ec_BadValue, T.kt_BadValue_BadValue⟩
theorem isx_BadModel : ∀ p ∈ ([("BadModel", true), ("BadValue", false)] : List (Str × Bool)), ∃ C, ClsAt K p.1 C ∧ ExcC K C ∧ PySem.W.kitOne K (.ref C) (.ref T.C_BadModel) = some p.2 := by
  intro p hp
  simp only [List.mem_cons, List.not_mem_nil, or_false] at hp
  rcases hp with rfl | rfl
  · exact ⟨T.C_BadModel, T.ca_BadModel, T.ec_BadModel, T.kt_BadModel_BadModel⟩
  · exact ⟨T.C_BadValue, T.ca_BadValue, T.ec_BadValue, T.kt_BadValue_BadModel⟩
theorem isx_ValueError : ∀ p ∈ ([("BadModel", true), ("BadValue", true)] : List (Str × Bool)), ∃ C, ClsAt K p.1 C ∧ ExcC K C ∧ PySem.W.kitOne K (.ref C) (.type "ValueError") = some p.2 := by
  intro p hp
  simp only [List.mem_cons, List.not_mem_nil, or_false] at hp
  rcases hp with rfl | rfl
  · exact ⟨T.C_BadModel, T.ca_BadModel, T.ec_BadModel, T.kt_BadModel_ValueError⟩
  · exact ⟨T.C_BadValue, T.ca_BadValue, T.ec_BadValue, T.kt_BadValue_ValueError⟩
theorem xf_value : ∀ cn ∈ (["BadModel", "BadValue"] : List Str), ∃ C, ClsAt K cn C ∧ XfC K C ∧ PySem.W.findIn K (.ref C) "value" = some none := by
  intro p hp
  simp only [List.mem_cons, List.not_mem_nil, or_false] at hp
  rcases hp with rfl | rfl
  · exact ⟨T.C_BadModel, T.ca_BadModel, T.xf_BadModel, T.e_BadModel.fld⟩
  · exact ⟨T.C_BadValue, T.ca_BadValue, T.xf_BadValue, T.e_BadValue.fld⟩
theorem kb_show_deed_deed : KB K T.d_show_deed ["deed"] ["deed"] 0 [0] := fun s us ws _ h1 h2 => by
  obtain ⟨oc, od, kV, doc, pm, an, cdv, ct, osl, e, lk, hcd⟩ := T.u_show_deed.ex
  rw [e]
  match us, ws, h1, h2 with
  | [], [_], _, _ => exact .of_eq rfl
theorem G_l_is_int : FnG P w K mg base 1 T.f_l_is_int T.d_l_is_int ["_law_thing"] F_l_is_int :=
  fnG_mkX (k := 0) (.of T.u_l_is_int) sc_l_is_int fun cdv A outer s H E hr hgd tk =>
      (sb_one (ss_ret (se_and (se_callB call_isi o_isi (by rfl) T.z_isinstance (by decide +kernel) (sa_cons (se_var 0 (pv 0)) (sa_cons (se_c (v := .ty "int") (pe_bltn (u := .type "int") (by rfl) T.z_int (by decide +kernel) rfl) fun _ _ _ => .ty "int") sa_nil))) (se_and (se_not (se_callB call_isi o_isi (by rfl) T.z_isinstance (by decide +kernel) (sa_cons (se_var 0 (pv 0)) (sa_cons (se_c (v := .ty "bool") (pe_bltn (u := .type "bool") (by rfl) T.z_bool (by decide +kernel) rfl) fun _ _ _ => .ty "bool") sa_nil)))) (se_one (se_cmp (op_geA hr.units0) o_ord (se_var 0 (pv 0)) se_int (nomark _)))))))
theorem G_l_is_name : FnG P w K mg base 1 T.f_l_is_name T.d_l_is_name ["_law_thing"] F_l_is_name :=
  fnG_mkX (k := 0) (.of T.u_l_is_name) sc_l_is_name fun cdv A outer s H E hr hgd tk =>
      (sb_one (ss_ret (se_and (se_callB call_isi o_isi (by rfl) T.z_isinstance (by decide +kernel) (sa_cons (se_var 0 (pv 0)) (sa_cons (se_c (v := .ty "str") (pe_bltn (u := .type "str") (by rfl) T.z_str (by decide +kernel) rfl) fun _ _ _ => .ty "str") sa_nil))) (se_and (se_chain (op_leA hr.units0) o_ord (op_leA hr.units0) o_ord se_int (se_callB call_lenAll o_len (by rfl) T.z_len (by decide +kernel) (sa_cons (se_var 0 (pv 0)) sa_nil)) se_int) (se_one (se_cmp (op_eqA hr.units) o_eq (se_sm (name := "strip") o_strip (se_var 0 (pv 0)) se_str (fun h1 h2 => pe_stripC h1 h2)) se_str (nomark _)))))))
theorem G_l_pot : FnG P w K mg base 1 T.f_l_pot T.d_l_pot ["_law_script", "_law_k"] F_l_pot :=
  fnG_mkX (k := 0) (.of T.u_l_pot) sc_l_pot fun cdv A outer s H E hr hgd tk =>
      (sb_cons (ss_set (i := 2) sc_l_pot.nd rfl (by first | exact Or.inl rfl | exact Or.inr rfl) (se_if (st_cmp (op_ltA hr.units0) o_ord (se_var 1 (pv 1)) (se_callB call_lenAll o_len (by rfl) T.z_len (by decide +kernel) (sa_cons (se_var 0 (pv 0)) sa_nil)) (nomark _)) (se_ix ix_seq o_ix (se_var 0 (pv 0)) (se_var 1 (pv 1)) (fun _ _ => rfl)) (se_op op_addAll o_add (se_op op_mulB o_mulB se_int (se_var 1 (pv 1))) se_int)))
      (sb_cons (ss_set (i := 3) sc_l_pot.nd rfl (by first | exact Or.inl rfl | exact Or.inr rfl) (se_op op_mulB o_mulB (se_op op_modN o_mod (se_callTy call_int1 o_int (by rfl) T.z_int (by decide +kernel) (sa_cons (se_callB call_abs o_abs (by rfl) T.z_abs (by decide +kernel) (sa_cons (se_var 2 (pv 2)) sa_nil)) sa_nil)) (se_op op_powG o_pow (se_op op_powG o_pow se_int se_int) se_int)) (se_callTy call_int1 o_int (by rfl) T.z_int (by decide +kernel) (sa_cons (se_cmp (op_geA hr.units0) o_ord (se_callB call_abs o_abs (by rfl) T.z_abs (by decide +kernel) (sa_cons (se_var 2 (pv 2)) sa_nil)) (se_op op_powG o_pow se_int se_int) (nomark _)) sa_nil))))
      (sb_one (ss_ret (se_lst (sa_cons (se_var 3 (pv 3)) (sa_cons (se_op op_modN o_mod (se_callTy call_int1 o_int (by rfl) T.z_int (by decide +kernel) (sa_cons (se_op op_addAll o_add (se_op op_addAll o_add (se_op op_mulB o_mulB (se_op op_modN o_mod (se_callTy call_int1 o_int (by rfl) T.z_int (by decide +kernel) (sa_cons (se_var 2 (pv 2)) sa_nil)) se_int) se_int) (se_op op_mulB o_mulB (se_op op_mulB o_mulB se_int (se_var 1 (pv 1))) (se_var 1 (pv 1)))) se_int) sa_nil)) se_int) (sa_cons se_int sa_nil))))))))
theorem G_l_take : FnG P w K mg base 1 T.f_l_take T.d_l_take ["_law_pot_here", "_law_upto"] F_l_take :=
  fnG_mkX (k := 0) (.of T.u_l_take) sc_l_take fun cdv A outer s H E hr hgd tk =>
      (sb_cons (ss_if (st_cmp (op_gtA hr.units0) o_ord (se_ix ix_seq o_ix (se_var 0 (pv 0)) se_int (fun _ _ => rfl)) se_int (nomark _)) (sb_cons (ss_set (i := 2) sc_l_take.nd rfl (by first | exact Or.inl rfl | exact Or.inr rfl) (se_op op_modN o_mod (se_callTy call_int1 o_int (by rfl) T.z_int (by decide +kernel) (sa_cons (se_ix ix_seq o_ix (se_var 0 (pv 0)) se_int (fun _ _ => rfl)) sa_nil)) (se_var 1 (pv 1))))
      (sb_cons (ss_as (se_op op_fdivN o_fdiv (se_ix ix_seq o_ix (se_var 0 (pv 0)) se_int (fun _ _ => rfl)) (se_var 1 (pv 1))) (sg_sub (se_var 0 (pv 0)) se_int))
      (sb_one (ss_ret (se_var 2 (pv 2)))))) sb_nil)
      (sb_cons (ss_as (se_op op_addAll o_add (se_ix ix_seq o_ix (se_var 0 (pv 0)) se_int (fun _ _ => rfl)) se_int) (sg_sub (se_var 0 (pv 0)) se_int))
      (sb_cons (ss_set (i := 3) sc_l_take.nd rfl (by first | exact Or.inl rfl | exact Or.inr rfl) (se_ix ix_seq o_ix (se_lst (sa_cons se_int (sa_cons se_int (sa_cons se_int (sa_cons se_int (sa_cons se_int sa_nil)))))) (se_op op_modN o_mod (se_callTy call_int1 o_int (by rfl) T.z_int (by decide +kernel) (sa_cons (se_ix ix_seq o_ix (se_var 0 (pv 0)) se_int (fun _ _ => rfl)) sa_nil)) se_int) (fun _ _ => rfl)))
      (sb_cons (ss_set (i := 4) sc_l_take.nd rfl (by first | exact Or.inl rfl | exact Or.inr rfl) (se_op op_modN o_mod (se_callTy call_int1 o_int (by rfl) T.z_int (by decide +kernel) (sa_cons (se_op op_powG o_pow (se_callTy call_int1 o_int (by rfl) T.z_int (by decide +kernel) (sa_cons (se_op op_addAll o_add (se_op op_addAll o_add (se_ix ix_seq o_ix (se_var 0 (pv 0)) se_int (fun _ _ => rfl)) (se_op op_mulB o_mulB (se_op op_mulB o_mulB se_int (se_ix ix_seq o_ix (se_var 0 (pv 0)) se_int (fun _ _ => rfl))) (se_ix ix_seq o_ix (se_var 0 (pv 0)) se_int (fun _ _ => rfl)))) se_int) sa_nil)) se_int) sa_nil)) (se_var 3 (pv 3))))
      (sb_cons (ss_set (i := 4) sc_l_take.nd rfl (by first | exact Or.inl rfl | exact Or.inr rfl) (se_op op_modN o_mod (se_callTy call_int1 o_int (by rfl) T.z_int (by decide +kernel) (sa_cons (se_op op_mulB o_mulB (se_var 4 (pv 4)) (se_op op_addAll o_add (se_op op_modN o_mod (se_callTy call_int1 o_int (by rfl) T.z_int (by decide +kernel) (sa_cons (se_var 4 (pv 4)) sa_nil)) se_int) (se_op op_mulB o_mulB se_int (se_ix ix_seq o_ix (se_var 0 (pv 0)) se_int (fun _ _ => rfl))))) sa_nil)) se_int))
      (sb_one (ss_ret (se_op op_modN o_mod (se_callTy call_int1 o_int (by rfl) T.z_int (by decide +kernel) (sa_cons (se_op op_fdivN o_fdiv (se_var 4 (pv 4)) se_int) sa_nil)) (se_var 1 (pv 1))))))))))
theorem G_l_written : FnG P w K mg base 1 T.f_l_written T.d_l_written ["_law_thing"] F_l_written :=
  fnG_mkX (k := 0) (.of T.u_l_written) sc_l_written fun cdv A outer s H E hr hgd tk =>
      (sb_cons (ss_set (i := 1) sc_l_written.nd rfl (by first | exact Or.inl rfl | exact Or.inr rfl) (se_lst (sa_cons (se_op op_addAll o_add (se_op op_addAll o_add (se_callTy call_strA o_str (by rfl) T.z_str (by decide +kernel) (sa_cons (se_ix ix_seq o_ix (se_ix ix_seq o_ix (se_var 0 (pv 0)) se_int (fun _ _ => rfl)) se_int (fun _ _ => rfl)) sa_nil)) se_str) (se_callTy call_strA o_str (by rfl) T.z_str (by decide +kernel) (sa_cons (se_ix ix_seq o_ix (se_ix ix_seq o_ix (se_var 0 (pv 0)) se_int (fun _ _ => rfl)) se_int (fun _ _ => rfl)) sa_nil))) (sa_cons (se_ix ix_seq o_ix (se_var 0 (pv 0)) se_int (fun _ _ => rfl)) (sa_cons (se_ix ix_seq o_ix (se_var 0 (pv 0)) se_int (fun _ _ => rfl)) (sa_cons (se_callTy call_strA o_str (by rfl) T.z_str (by decide +kernel) (sa_cons (se_ix ix_seq o_ix (se_var 0 (pv 0)) se_int (fun _ _ => rfl)) sa_nil)) sa_nil))))))
      (sb_cons (ss_for (passes_of rfl) rfl (si_any (se_ix ix_seq o_ix (se_var 0 (pv 0)) se_int (fun _ _ => rfl))) (sg_tup rfl (sgs_cons (sg_name (pg_name (i := 2) sc_l_written.nd rfl (by first | exact Or.inl rfl | exact Or.inr rfl))) (sgs_cons (sg_name (pg_name (i := 3) sc_l_written.nd rfl (by first | exact Or.inl rfl | exact Or.inr rfl))) (sgs_cons (sg_name (pg_name (i := 4) sc_l_written.nd rfl (by first | exact Or.inl rfl | exact Or.inr rfl))) (sgs_cons (sg_name (pg_name (i := 5) sc_l_written.nd rfl (by first | exact Or.inl rfl | exact Or.inr rfl))) sgs_nil gT0_noerr) (gTc_noerr gN_noerr gT0_noerr)) (gTc_noerr gN_noerr (gTc_noerr gN_noerr gT0_noerr))) (gTc_noerr gN_noerr (gTc_noerr gN_noerr (gTc_noerr gN_noerr gT0_noerr)))) (by rfl) (gTc_len (gTc_len (gTc_len (gTc_len gT0_len)))) (gTc_noerr gN_noerr (gTc_noerr gN_noerr (gTc_noerr gN_noerr (gTc_noerr gN_noerr gT0_noerr))))) (sb_one (ss_set (i := 1) sc_l_written.nd rfl (by first | exact Or.inl rfl | exact Or.inr rfl) (se_op op_addAll o_add (se_var 1 (pv 1)) (se_lst (sa_cons se_str (sa_cons (se_callTy call_strA o_str (by rfl) T.z_str (by decide +kernel) (sa_cons (se_var 2 (pv 2)) sa_nil)) (sa_cons (se_callTy call_strA o_str (by rfl) T.z_str (by decide +kernel) (sa_cons (se_var 3 (pv 3)) sa_nil)) (sa_cons (se_op op_addAll o_add (se_op op_addAll o_add (se_callTy call_strA o_str (by rfl) T.z_str (by decide +kernel) (sa_cons (se_ix ix_seq o_ix (se_var 4 (pv 4)) se_int (fun _ _ => rfl)) sa_nil)) se_str) (se_callTy call_strA o_str (by rfl) T.z_str (by decide +kernel) (sa_cons (se_ix ix_seq o_ix (se_var 4 (pv 4)) se_int (fun _ _ => rfl)) sa_nil))) (sa_cons (se_callTy call_strA o_str (by rfl) T.z_str (by decide +kernel) (sa_cons (se_var 5 (pv 5)) sa_nil)) sa_nil))))))))))
      (sb_cons (ss_for (passes_of rfl) rfl (si_any (se_ix ix_seq o_ix (se_var 0 (pv 0)) se_int (fun _ _ => rfl))) (sg_name (pg_name (i := 5) sc_l_written.nd rfl (by first | exact Or.inl rfl | exact Or.inr rfl))) (sb_one (ss_set (i := 1) sc_l_written.nd rfl (by first | exact Or.inl rfl | exact Or.inr rfl) (se_op op_addAll o_add (se_var 1 (pv 1)) (se_lst (sa_cons se_str (sa_cons (se_callTy call_strA o_str (by rfl) T.z_str (by decide +kernel) (sa_cons (se_var 5 (pv 5)) sa_nil)) sa_nil)))))))
      (sb_one (ss_ret (se_sm (name := "join") o_join se_str (se_var 1 (pv 1)) (fun h1 h2 => pe_joinR h1 h2)))))))
theorem G_is_count_stamps : FnG P w K mg base 1 T.f_is_count_stamps T.d_is_count_stamps ["value"] F_is_count_stamps :=
  fnG_mkX (k := 0) (.of T.u_is_count_stamps) sc_is_count_stamps fun cdv A outer s H E hr hgd tk =>
      (sb_one (ss_ret (se_and (se_callB call_isi o_isi (by rfl) T.z_isinstance (by decide +kernel) (sa_cons (se_var 0 (pv 0)) (sa_cons (se_c (v := .ty "int") (pe_bltn (u := .type "int") (by rfl) T.z_int (by decide +kernel) rfl) fun _ _ _ => .ty "int") sa_nil))) (se_and (se_not (se_callB call_isi o_isi (by rfl) T.z_isinstance (by decide +kernel) (sa_cons (se_var 0 (pv 0)) (sa_cons (se_c (v := .ty "bool") (pe_bltn (u := .type "bool") (by rfl) T.z_bool (by decide +kernel) rfl) fun _ _ _ => .ty "bool") sa_nil)))) (se_one (se_cmp (op_geA hr.units0) o_ord (se_var 0 (pv 0)) se_int (nomark _)))))))
theorem G_is_count_texts : FnG P w K mg base 1 T.f_is_count_texts T.d_is_count_texts ["value"] F_is_count_texts :=
  fnG_mkX (k := 0) (.of T.u_is_count_texts) sc_is_count_texts fun cdv A outer s H E hr hgd tk =>
      (sb_one (ss_ret (se_and (se_callB call_isi o_isi (by rfl) T.z_isinstance (by decide +kernel) (sa_cons (se_var 0 (pv 0)) (sa_cons (se_c (v := .ty "int") (pe_bltn (u := .type "int") (by rfl) T.z_int (by decide +kernel) rfl) fun _ _ _ => .ty "int") sa_nil))) (se_and (se_not (se_callB call_isi o_isi (by rfl) T.z_isinstance (by decide +kernel) (sa_cons (se_var 0 (pv 0)) (sa_cons (se_c (v := .ty "bool") (pe_bltn (u := .type "bool") (by rfl) T.z_bool (by decide +kernel) rfl) fun _ _ _ => .ty "bool") sa_nil)))) (se_one (se_cmp (op_geA hr.units0) o_ord (se_var 0 (pv 0)) se_int (nomark _)))))))
theorem G_is_name : FnG P w K mg base 1 T.f_is_name T.d_is_name ["value"] F_is_name :=
  fnG_mkX (k := 0) (.of T.u_is_name) sc_is_name fun cdv A outer s H E hr hgd tk =>
      (sb_cons (ss_if (PW.pt (sw_or (st_not (st_of (se_callB call_isi o_isi (by rfl) T.z_isinstance (by decide +kernel) (sa_cons (se_var 0 (pv 0)) (sa_cons (se_c (v := .ty "str") (pe_bltn (u := .type "str") (by rfl) T.z_str (by decide +kernel) rfl) fun _ _ _ => .ty "str") sa_nil))))) (sw_or1 (st_not (st_chain (op_leA hr.units0) o_ord (op_leA hr.units0) o_ord se_int (se_callB call_lenAll o_len (by rfl) T.z_len (by decide +kernel) (sa_cons (se_var 0 (pv 0)) sa_nil)) (se_c (v := .int 8) (pe_glob (by rfl) T.c_MOST_LETTERS ⟨_, rfl⟩) fun _ _ _ => .int 8)))))) (sb_one (ss_ret se_bl)) sb_nil)
      (sb_one (ss_ret (se_callB (cr_all rfl) o_all (by rfl) T.z_all (by decide +kernel) (sa_cons (se_lc (own := [("sign", 1)]) rfl sc_is_name.nd (si_any (se_var 0 (pv 0))) (blkOk_by (N := n_is_name) (sc := defScope (topS 7)) (by decide +kernel)) (fun _ _ _ _ _ => (sg_name (pg_name (i := 1) sc_is_name.nd rfl (by first | exact Or.inl rfl | exact Or.inr rfl)))) (fun _ _ _ _ _ => pts0) (fun _ _ _ _ _ => (se_cmp (op_inA (units65 hr)) o_in (se_var 1 (pv 1)) (se_c (v := .str (PySem.Str.ofString "abcdefghijklmnopqrstuvwxyz")) (pe_glob (by rfl) T.c_LETTERS ⟨_, rfl⟩) fun _ _ _ => .str _) (by with_unfolding_all rfl)))) sa_nil)))))
theorem G_line_of : FnV P w K mg base 1 T.f_line_of F_line_of :=
  fnV_mk (k := 0) T.u_line_of sc_line_of T.v_line_of fun cdv A outer s H E hr hgd tk =>
      (sb_one (ss_ret (se_sm (name := "join") o_join (se_c (v := .str (PySem.Str.ofString " ")) (pe_glob (by rfl) T.c_BLANK ⟨_, rfl⟩) fun _ _ _ => .str _) (se_lc (own := [("part", 1)]) rfl sc_line_of.nd (si_any (se_var 0 (pv 0))) (blkOk_by (N := n_line_of) (sc := defScope (topS 19)) (by decide +kernel)) (fun _ _ _ _ _ => (sg_name (pg_name (i := 1) sc_line_of.nd rfl (by first | exact Or.inl rfl | exact Or.inr rfl)))) (fun _ _ _ _ _ => pts0) (fun _ _ _ _ _ => (se_callTy call_strA o_str (by rfl) T.z_str (by decide +kernel) (sa_cons (se_var 1 (pv 1)) sa_nil)))) (fun h1 h2 => pe_joinR h1 h2))))
theorem G_show_stamp : FnG P w K mg base 1 T.f_show_stamp T.d_show_stamp ["stamp"] F_show_stamp :=
  fnG_mkX (k := 0) (.of T.u_show_stamp) sc_show_stamp fun cdv A outer s H E hr hgd tk =>
      (sb_one (ss_ret (se_if (st_cmp op_isN o_isN (se_var 0 (pv 0)) se_non (nomark _)) (se_c (v := .str (PySem.Str.ofString "never")) (pe_glob (by rfl) T.c_NEVER ⟨_, rfl⟩) fun _ _ _ => .str _) (se_joined (.cons (se_fmt (se_ix ix_seq o_ix (se_var 0 (pv 0)) se_int (fun _ _ => rfl))) (.cons se_str (.cons (se_fmt (se_ix ix_seq o_ix (se_var 0 (pv 0)) se_int (fun _ _ => rfl))) .nil)))))))
theorem G_l_is_moment : FnG P w K mg base 2 T.f_l_is_moment T.d_l_is_moment ["_law_thing"] F_l_is_moment :=
  fnG_mkX (k := 1) (.of T.u_l_is_moment) sc_l_is_moment fun cdv A outer s H E hr hgd tk =>
      (sb_one (ss_ret (se_and (se_callB call_isi o_isi (by rfl) T.z_isinstance (by decide +kernel) (sa_cons (se_var 0 (pv 0)) (sa_cons (se_c (v := .ty "tuple") (pe_bltn (u := .type "tuple") (by rfl) T.z_tuple (by decide +kernel) rfl) fun _ _ _ => .ty "tuple") sa_nil))) (se_and (se_cmp (op_eqA hr.units) o_eq (se_callB call_lenAll o_len (by rfl) T.z_len (by decide +kernel) (sa_cons (se_var 0 (pv 0)) sa_nil)) se_int (nomark _)) (se_one (se_callB (cr_all rfl) o_all (by rfl) T.z_all (by decide +kernel) (sa_cons (se_lc (own := [("_law_part", 1)]) rfl sc_l_is_moment.nd (si_any (se_var 0 (pv 0))) (blkOk_by (N := n_l_is_moment) (sc := defScope (topS 31)) (by decide +kernel)) (fun _ _ _ _ _ => (sg_name (pg_name (i := 1) sc_l_is_moment.nd rfl (by first | exact Or.inl rfl | exact Or.inr rfl)))) (fun _ _ _ _ _ => pts0) (fun _ _ _ _ _ => (se_call (fnG_gq (G_l_is_int T)) (hr.mono (by omega)) hgd takes0 (by rfl) T.g_l_is_int T.u_l_is_int.kp T.b_l_is_int (gq_arity fnM_arity) (sa_cons (se_var 1 (pv 1)) sa_nil)))) sa_nil)))))))
theorem G_l_of : FnG P w K mg base 2 T.f_l_of T.d_l_of ["_law_pot_here", "_law_some"] F_l_of :=
  fnG_mkX (k := 1) (.of T.u_l_of) sc_l_of fun cdv A outer s H E hr hgd tk =>
      (sb_one (ss_ret (se_ix ix_seq o_ix (se_var 1 (pv 1)) (se_call (fnG_gq (G_l_take T)) (hr.mono (by omega)) hgd tk (by rfl) T.g_l_take T.u_l_take.kp T.b_l_take (gq_arity fnM_arity) (sa_cons (se_var 0 (pv 0)) (sa_cons (se_callB call_lenAll o_len (by rfl) T.z_len (by decide +kernel) (sa_cons (se_var 1 (pv 1)) sa_nil)) sa_nil))) (fun _ _ => rfl))))
theorem G_is_stamp : FnG P w K mg base 2 T.f_is_stamp T.d_is_stamp ["value"] F_is_stamp :=
  fnG_mkX (k := 1) (.of T.u_is_stamp) sc_is_stamp fun cdv A outer s H E hr hgd tk =>
      (sb_one (ss_ret (se_and (se_callB call_isi o_isi (by rfl) T.z_isinstance (by decide +kernel) (sa_cons (se_var 0 (pv 0)) (sa_cons (se_c (v := .ty "tuple") (pe_bltn (u := .type "tuple") (by rfl) T.z_tuple (by decide +kernel) rfl) fun _ _ _ => .ty "tuple") sa_nil))) (se_and (se_cmp (op_eqA hr.units) o_eq (se_callB call_lenAll o_len (by rfl) T.z_len (by decide +kernel) (sa_cons (se_var 0 (pv 0)) sa_nil)) (se_c (v := .int 2) (pe_glob (by rfl) T.c_PARTS ⟨_, rfl⟩) fun _ _ _ => .int 2) (nomark _)) (se_one (se_callB (cr_all rfl) o_all (by rfl) T.z_all (by decide +kernel) (sa_cons (se_lc (own := [("part", 1)]) rfl sc_is_stamp.nd (si_any (se_var 0 (pv 0))) (blkOk_by (N := n_is_stamp) (sc := defScope (topS 12)) (by decide +kernel)) (fun _ _ _ _ _ => (sg_name (pg_name (i := 1) sc_is_stamp.nd rfl (by first | exact Or.inl rfl | exact Or.inr rfl)))) (fun _ _ _ _ _ => pts0) (fun _ _ _ _ _ => (se_call (fnG_gq (G_is_count_stamps T)) (hr.mono (by omega)) hgd takes0 (by rfl) T.g_is_count_stamps T.u_is_count_stamps.kp T.b_is_count_stamps (gq_arity fnM_arity) (sa_cons (se_var 1 (pv 1)) sa_nil)))) sa_nil)))))))
theorem G_l_deed : FnG P w K mg base 3 T.f_l_deed T.d_l_deed ["_law_pot_here"] F_l_deed :=
  fnG_mkX (k := 2) (.of T.u_l_deed) sc_l_deed fun cdv A outer s H E hr hgd tk =>
      (sb_cons (ss_par (i := 1) (j := 2) rfl sc_l_deed.nd rfl rfl (by decide) rfl rfl (sa_cons (se_tup (sa_cons (se_call (fnG_gq (G_l_of T)) (hr.mono (by omega)) hgd tk (by rfl) T.g_l_of T.u_l_of.kp T.b_l_of (gq_arity fnM_arity) (sa_cons (se_var 0 (pv 0)) (sa_cons (se_lst (sa_cons se_int (sa_cons se_int (sa_cons (se_op op_powG o_pow se_int se_int) sa_nil)))) sa_nil))) (sa_cons (se_call (fnG_gq (G_l_of T)) (hr.mono (by omega)) hgd tk (by rfl) T.g_l_of T.u_l_of.kp T.b_l_of (gq_arity fnM_arity) (sa_cons (se_var 0 (pv 0)) (sa_cons (se_lst (sa_cons se_int (sa_cons se_int (sa_cons se_int sa_nil)))) sa_nil))) sa_nil))) (sa_cons (se_lst sa_nil) sa_nil)) (by rfl))
      (sb_cons (ss_for (passes_of rfl) rfl (si_range1 (by rfl) T.z_range (sa_cons (se_call (fnG_gq (G_l_of T)) (hr.mono (by omega)) hgd tk (by rfl) T.g_l_of T.u_l_of.kp T.b_l_of (gq_arity fnM_arity) (sa_cons (se_var 0 (pv 0)) (sa_cons (se_lst (sa_cons se_int (sa_cons se_int (sa_cons se_int (sa_cons se_int (sa_cons se_int sa_nil)))))) sa_nil))) sa_nil)) (sg_name (pg_name (i := 3) sc_l_deed.nd rfl (by first | exact Or.inl rfl | exact Or.inr rfl))) (sb_cons (ss_set (i := 4) sc_l_deed.nd rfl (by first | exact Or.inl rfl | exact Or.inr rfl) (se_tup (sa_cons (se_call (fnG_gq (G_l_take T)) (hr.mono (by omega)) hgd tk (by rfl) T.g_l_take T.u_l_take.kp T.b_l_take (gq_arity fnM_arity) (sa_cons (se_var 0 (pv 0)) (sa_cons se_int sa_nil))) (sa_cons (se_call (fnG_gq (G_l_take T)) (hr.mono (by omega)) hgd tk (by rfl) T.g_l_take T.u_l_take.kp T.b_l_take (gq_arity fnM_arity) (sa_cons (se_var 0 (pv 0)) (sa_cons se_int sa_nil))) sa_nil))))
      (sb_one (ss_expr (se_lm (name := "append") o_app (se_var 2 (pv 2)) (sa_cons (se_tup (sa_cons (se_call (fnG_gq (G_l_take T)) (hr.mono (by omega)) hgd tk (by rfl) T.g_l_take T.u_l_take.kp T.b_l_take (gq_arity fnM_arity) (sa_cons (se_var 0 (pv 0)) (sa_cons se_int sa_nil))) (sa_cons (se_call (fnG_gq (G_l_take T)) (hr.mono (by omega)) hgd tk (by rfl) T.g_l_take T.u_l_take.kp T.b_l_take (gq_arity fnM_arity) (sa_cons (se_var 0 (pv 0)) (sa_cons se_int sa_nil))) (sa_cons (se_var 4 (pv 4)) (sa_cons (se_call (fnG_gq (G_l_take T)) (hr.mono (by omega)) hgd tk (by rfl) T.g_l_take T.u_l_take.kp T.b_l_take (gq_arity fnM_arity) (sa_cons (se_var 0 (pv 0)) (sa_cons se_int sa_nil))) sa_nil))))) sa_nil) (fun h1 h2 => pe_bm PySem.F.plainAttrs_list PySem.F.slot_list_append PySem.F.type_list_append mt_append h1 h2))))))
      (sb_cons (ss_set (i := 5) sc_l_deed.nd rfl (by first | exact Or.inl rfl | exact Or.inr rfl) (se_callTy c_tuple o_tuple (by rfl) T.z_tuple (by decide +kernel) (sa_cons (se_lc (own := [("_law_turn", 3)]) rfl sc_l_deed.nd (si_range1 (by rfl) T.z_range (sa_cons (se_call (fnG_gq (G_l_of T)) (hr.mono (by omega)) hgd tk (by rfl) T.g_l_of T.u_l_of.kp T.b_l_of (gq_arity fnM_arity) (sa_cons (se_var 0 (pv 0)) (sa_cons (se_lst (sa_cons se_int (sa_cons se_int (sa_cons se_int (sa_cons se_int sa_nil))))) sa_nil))) sa_nil)) (blkOk_by (N := n_l_deed) (sc := defScope (topS 37)) (by decide +kernel)) (fun _ _ _ _ _ => (sg_name (pg_name (i := 3) sc_l_deed.nd rfl (by first | exact Or.inl rfl | exact Or.inr rfl)))) (fun _ _ _ _ _ => pts0) (fun _ _ _ _ _ => (se_call (fnG_gq (G_l_take T)) (hr.mono (by omega)) hgd takes0 (by rfl) T.g_l_take T.u_l_take.kp T.b_l_take (gq_arity fnM_arity) (sa_cons (se_var 0 (pv 0)) (sa_cons se_int sa_nil))))) sa_nil)))
      (sb_cons (ss_par (i := 6) (j := 7) rfl sc_l_deed.nd rfl rfl (by decide) rfl rfl (sa_cons (se_call (fnG_gq (G_l_of T)) (hr.mono (by omega)) hgd tk (by rfl) T.g_l_of T.u_l_of.kp T.b_l_of (gq_arity fnM_arity) (sa_cons (se_var 0 (pv 0)) (sa_cons (se_lst (sa_cons se_str (sa_cons se_str (sa_cons se_str sa_nil)))) sa_nil))) (sa_cons (se_call (fnG_gq (G_l_of T)) (hr.mono (by omega)) hgd tk (by rfl) T.g_l_of T.u_l_of.kp T.b_l_of (gq_arity fnM_arity) (sa_cons (se_var 0 (pv 0)) (sa_cons (se_lst (sa_cons se_str (sa_cons se_str (sa_cons se_str sa_nil)))) sa_nil))) sa_nil)) (by rfl))
      (sb_one (ss_ret (se_tup (sa_cons (se_var 1 (pv 1)) (sa_cons (se_var 6 (pv 6)) (sa_cons (se_var 7 (pv 7)) (sa_cons (se_call (fnG_gq (G_l_take T)) (hr.mono (by omega)) hgd tk (by rfl) T.g_l_take T.u_l_take.kp T.b_l_take (gq_arity fnM_arity) (sa_cons (se_var 0 (pv 0)) (sa_cons se_int sa_nil))) (sa_cons (se_callTy c_tuple o_tuple (by rfl) T.z_tuple (by decide +kernel) (sa_cons (se_var 2 (pv 2)) sa_nil)) (sa_cons (se_var 5 (pv 5)) sa_nil)))))))))))))
theorem G_l_is_letter : FnG P w K mg base 3 T.f_l_is_letter T.d_l_is_letter ["_law_thing"] F_l_is_letter :=
  fnG_mkX (k := 2) (.of T.u_l_is_letter) sc_l_is_letter fun cdv A outer s H E hr hgd tk =>
      (sb_cons (ss_if (PW.pt (sw_or (st_not (st_of (se_callB call_isi o_isi (by rfl) T.z_isinstance (by decide +kernel) (sa_cons (se_var 0 (pv 0)) (sa_cons (se_c (v := .ty "tuple") (pe_bltn (u := .type "tuple") (by rfl) T.z_tuple (by decide +kernel) rfl) fun _ _ _ => .ty "tuple") sa_nil))))) (sw_or (st_cmp (op_neA hr.units) o_ne (se_callB call_lenAll o_len (by rfl) T.z_len (by decide +kernel) (sa_cons (se_var 0 (pv 0)) sa_nil)) se_int (nomark _)) (sw_or1 (st_not (st_of (se_call (fnG_gq (G_l_is_moment T)) (hr.mono (by omega)) hgd tk (by rfl) T.g_l_is_moment T.u_l_is_moment.kp T.b_l_is_moment (gq_arity fnM_arity) (sa_cons (se_ix ix_seq o_ix (se_var 0 (pv 0)) se_int (fun _ _ => rfl)) sa_nil)))))))) (sb_one (ss_ret se_bl)) sb_nil)
      (sb_one (ss_ret (se_callB (cr_all rfl) o_all (by rfl) T.z_all (by decide +kernel) (sa_cons (se_lc (own := [("_law_at", 1)]) rfl sc_l_is_letter.nd (si_any (se_tup (sa_cons se_int (sa_cons se_int (sa_cons se_int sa_nil))))) (blkOk_by (N := n_l_is_letter) (sc := defScope (topS 32)) (by decide +kernel)) (fun _ _ _ _ _ => (sg_name (pg_name (i := 1) sc_l_is_letter.nd rfl (by first | exact Or.inl rfl | exact Or.inr rfl)))) (fun _ _ _ _ _ => pts0) (fun _ _ _ _ _ => (se_call (fnG_gq (G_l_is_int T)) (hr.mono (by omega)) hgd takes0 (by rfl) T.g_l_is_int T.u_l_is_int.kp T.b_l_is_int (gq_arity fnM_arity) (sa_cons (se_ix ix_seq o_ix (se_var 0 (pv 0)) (se_var 1 (pv 1)) (fun _ _ => rfl)) sa_nil)))) sa_nil)))))
theorem G_l_odd : FnG P w K mg base 3 T.f_l_odd T.d_l_odd ["_law_pot_here", "_law_thing"] F_l_odd :=
  fnG_mkX (k := 2) (.of T.u_l_odd) sc_l_odd fun cdv A outer s H E hr hgd tk =>
      (sb_cons (ss_set (i := 2) sc_l_odd.nd rfl (by first | exact Or.inl rfl | exact Or.inr rfl) (se_lst (sa_cons se_non (sa_cons se_bl (sa_cons se_bl (sa_cons se_int (sa_cons se_int (sa_cons (se_un un_neg o_neg se_int) (sa_cons (se_op op_powG o_pow se_int se_int) (sa_cons se_str (sa_cons se_str (sa_cons se_str (sa_cons se_str (sa_cons se_str (sa_cons se_str (sa_cons (se_tup sa_nil) (sa_cons (se_lst sa_nil) (sa_cons se_dct0 (sa_cons (se_tup (sa_cons se_int (sa_cons se_int sa_nil))) sa_nil)))))))))))))))))))
      (sb_cons (ss_if (st_of (se_callB call_isi o_isi (by rfl) T.z_isinstance (by decide +kernel) (sa_cons (se_var 1 (pv 1)) (sa_cons (se_c (v := .ty "tuple") (pe_bltn (u := .type "tuple") (by rfl) T.z_tuple (by decide +kernel) rfl) fun _ _ _ => .ty "tuple") sa_nil)))) (sb_one (ss_set (i := 2) sc_l_odd.nd rfl (by first | exact Or.inl rfl | exact Or.inr rfl) (se_op op_addE o_addE (se_var 2 (pv 2)) (se_op op_mulC o_mulC (se_lst (sa_cons (se_callTy c_list o_list (by rfl) T.z_list (by decide +kernel) (sa_cons (se_var 1 (pv 1)) sa_nil)) (sa_cons (se_op op_addE o_addE (se_var 1 (pv 1)) (se_slice (se_var 1 (pv 1)) sp_none (sp_some se_int))) (sa_cons (se_slice (se_var 1 (pv 1)) (sp_some se_int) sp_none) (sa_cons (se_slice (se_var 1 (pv 1)) sp_none (sp_some (se_un un_neg o_neg se_int))) (sa_cons (se_revT (se_var 1 (pv 1))) (sa_cons (se_tup (sa_cons (se_var 1 (pv 1)) sa_nil)) sa_nil))))))) se_int)))) sb_nil)
      (sb_cons (ss_if (st_of (se_callB call_isi o_isi (by rfl) T.z_isinstance (by decide +kernel) (sa_cons (se_var 1 (pv 1)) (sa_cons (se_c (v := .ty "int") (pe_bltn (u := .type "int") (by rfl) T.z_int (by decide +kernel) rfl) fun _ _ _ => .ty "int") sa_nil)))) (sb_one (ss_set (i := 2) sc_l_odd.nd rfl (by first | exact Or.inl rfl | exact Or.inr rfl) (se_op op_addE o_addE (se_var 2 (pv 2)) (se_lst (sa_cons (se_op op_addE o_addE (se_var 1 (pv 1)) se_int) (sa_cons (se_op op_subE o_subE se_int (se_var 1 (pv 1))) (sa_cons (se_callTy call_strA o_str (by rfl) T.z_str (by decide +kernel) (sa_cons (se_var 1 (pv 1)) sa_nil)) (sa_cons (se_tup (sa_cons (se_var 1 (pv 1)) sa_nil)) sa_nil)))))))) sb_nil)
      (sb_one (ss_ret (se_call (fnG_gq (G_l_of T)) (hr.mono (by omega)) hgd tk (by rfl) T.g_l_of T.u_l_of.kp T.b_l_of (gq_arity fnM_arity) (sa_cons (se_var 0 (pv 0)) (sa_cons (se_var 2 (pv 2)) sa_nil))))))))
theorem G_is_send : FnG P w K mg base 3 T.f_is_send T.d_is_send ["value"] F_is_send :=
  fnG_mkX (k := 2) (.of T.u_is_send) sc_is_send fun cdv A outer s H E hr hgd tk =>
      (sb_cons (ss_if (PW.pt (sw_or (st_not (st_of (se_callB call_isi o_isi (by rfl) T.z_isinstance (by decide +kernel) (sa_cons (se_var 0 (pv 0)) (sa_cons (se_c (v := .ty "tuple") (pe_bltn (u := .type "tuple") (by rfl) T.z_tuple (by decide +kernel) rfl) fun _ _ _ => .ty "tuple") sa_nil))))) (sw_or1 (st_cmp (op_neA hr.units) o_ne (se_callB call_lenAll o_len (by rfl) T.z_len (by decide +kernel) (sa_cons (se_var 0 (pv 0)) sa_nil)) (se_c (v := .int 4) (pe_glob (by rfl) T.c_SEND_PARTS ⟨_, rfl⟩) fun _ _ _ => .int 4) (nomark _))))) (sb_one (ss_ret se_bl)) sb_nil)
      (sb_cons (ss_as (se_var 0 (pv 0)) (sg_tup rfl (sgs_cons (sg_name (pg_name (i := 1) sc_is_send.nd rfl (by first | exact Or.inl rfl | exact Or.inr rfl))) (sgs_cons (sg_name (pg_name (i := 2) sc_is_send.nd rfl (by first | exact Or.inl rfl | exact Or.inr rfl))) (sgs_cons (sg_name (pg_name (i := 3) sc_is_send.nd rfl (by first | exact Or.inl rfl | exact Or.inr rfl))) (sgs_cons (sg_name (pg_name (i := 4) sc_is_send.nd rfl (by first | exact Or.inl rfl | exact Or.inr rfl))) sgs_nil gT0_noerr) (gTc_noerr gN_noerr gT0_noerr)) (gTc_noerr gN_noerr (gTc_noerr gN_noerr gT0_noerr))) (gTc_noerr gN_noerr (gTc_noerr gN_noerr (gTc_noerr gN_noerr gT0_noerr)))) (by rfl) (gTc_len (gTc_len (gTc_len (gTc_len gT0_len)))) (gTc_noerr gN_noerr (gTc_noerr gN_noerr (gTc_noerr gN_noerr (gTc_noerr gN_noerr gT0_noerr))))))
      (sb_one (ss_ret (se_and (se_call (fnG_gq (G_is_stamp T)) (hr.mono (by omega)) hgd tk (by rfl) T.g_is_stamp T.u_is_stamp.kp T.b_is_stamp (gq_arity fnM_arity) (sa_cons (se_var 3 (pv 3)) sa_nil)) (se_one (se_callB (cr_all rfl) o_all (by rfl) T.z_all (by decide +kernel) (sa_cons (se_lc (own := [("part", 5)]) rfl sc_is_send.nd (si_any (se_tup (sa_cons (se_var 1 (pv 1)) (sa_cons (se_var 2 (pv 2)) (sa_cons (se_var 4 (pv 4)) sa_nil))))) (blkOk_by (N := n_is_send) (sc := defScope (topS 22)) (by decide +kernel)) (fun _ _ _ _ _ => (sg_name (pg_name (i := 5) sc_is_send.nd rfl (by first | exact Or.inl rfl | exact Or.inr rfl)))) (fun _ _ _ _ _ => pts0) (fun _ _ _ _ _ => (se_call (fnG_gq (G_is_count_texts T)) (hr.mono (by omega)) hgd takes0 (by rfl) T.g_is_count_texts T.u_is_count_texts.kp T.b_is_count_texts (gq_arity fnM_arity) (sa_cons (se_var 5 (pv 5)) sa_nil)))) sa_nil))))))))
theorem G_l_is_deed : FnG P w K mg base 4 T.f_l_is_deed T.d_l_is_deed ["_law_thing"] F_l_is_deed :=
  fnG_mkX (k := 3) (.of T.u_l_is_deed) sc_l_is_deed fun cdv A outer s H E hr hgd tk =>
      (sb_cons (ss_if (PW.pt (sw_or (st_not (st_of (se_callB call_isi o_isi (by rfl) T.z_isinstance (by decide +kernel) (sa_cons (se_var 0 (pv 0)) (sa_cons (se_c (v := .ty "tuple") (pe_bltn (u := .type "tuple") (by rfl) T.z_tuple (by decide +kernel) rfl) fun _ _ _ => .ty "tuple") sa_nil))))) (sw_or (st_cmp (op_neA hr.units) o_ne (se_callB call_lenAll o_len (by rfl) T.z_len (by decide +kernel) (sa_cons (se_var 0 (pv 0)) sa_nil)) se_int (nomark _)) (sw_or1 (st_not (st_of (se_call (fnG_gq (G_l_is_moment T)) (hr.mono (by omega)) hgd tk (by rfl) T.g_l_is_moment T.u_l_is_moment.kp T.b_l_is_moment (gq_arity fnM_arity) (sa_cons (se_ix ix_seq o_ix (se_var 0 (pv 0)) se_int (fun _ _ => rfl)) sa_nil)))))))) (sb_one (ss_ret se_bl)) sb_nil)
      (sb_cons (ss_if (PW.pt (sw_or (st_not (st_of (se_call (fnG_gq (G_l_is_name T)) (hr.mono (by omega)) hgd tk (by rfl) T.g_l_is_name T.u_l_is_name.kp T.b_l_is_name (gq_arity fnM_arity) (sa_cons (se_ix ix_seq o_ix (se_var 0 (pv 0)) se_int (fun _ _ => rfl)) sa_nil)))) (sw_or (st_not (st_of (se_call (fnG_gq (G_l_is_name T)) (hr.mono (by omega)) hgd tk (by rfl) T.g_l_is_name T.u_l_is_name.kp T.b_l_is_name (gq_arity fnM_arity) (sa_cons (se_ix ix_seq o_ix (se_var 0 (pv 0)) se_int (fun _ _ => rfl)) sa_nil)))) (sw_or1 (st_not (st_of (se_call (fnG_gq (G_l_is_int T)) (hr.mono (by omega)) hgd tk (by rfl) T.g_l_is_int T.u_l_is_int.kp T.b_l_is_int (gq_arity fnM_arity) (sa_cons (se_ix ix_seq o_ix (se_var 0 (pv 0)) se_int (fun _ _ => rfl)) sa_nil)))))))) (sb_one (ss_ret se_bl)) sb_nil)
      (sb_cons (ss_if (PW.pt (sw_or (st_not (st_of (se_callB call_isi o_isi (by rfl) T.z_isinstance (by decide +kernel) (sa_cons (se_ix ix_seq o_ix (se_var 0 (pv 0)) se_int (fun _ _ => rfl)) (sa_cons (se_c (v := .ty "tuple") (pe_bltn (u := .type "tuple") (by rfl) T.z_tuple (by decide +kernel) rfl) fun _ _ _ => .ty "tuple") sa_nil))))) (sw_or1 (st_not (st_of (se_callB (cr_all rfl) o_all (by rfl) T.z_all (by decide +kernel) (sa_cons (se_lc (own := [("_law_part", 1)]) rfl sc_l_is_deed.nd (si_any (se_ix ix_seq o_ix (se_var 0 (pv 0)) se_int (fun _ _ => rfl))) (blkOk_by (N := n_l_is_deed) (sc := defScope (topS 33)) (by decide +kernel)) (fun _ _ _ _ _ => (sg_name (pg_name (i := 1) sc_l_is_deed.nd rfl (by first | exact Or.inl rfl | exact Or.inr rfl)))) (fun _ _ _ _ _ => pts0) (fun _ _ _ _ _ => (se_call (fnG_gq (G_l_is_letter T)) (hr.mono (by omega)) hgd takes0 (by rfl) T.g_l_is_letter T.u_l_is_letter.kp T.b_l_is_letter (gq_arity fnM_arity) (sa_cons (se_var 1 (pv 1)) sa_nil)))) sa_nil))))))) (sb_one (ss_ret se_bl)) sb_nil)
      (sb_one (ss_ret (se_and (se_callB call_isi o_isi (by rfl) T.z_isinstance (by decide +kernel) (sa_cons (se_ix ix_seq o_ix (se_var 0 (pv 0)) se_int (fun _ _ => rfl)) (sa_cons (se_c (v := .ty "tuple") (pe_bltn (u := .type "tuple") (by rfl) T.z_tuple (by decide +kernel) rfl) fun _ _ _ => .ty "tuple") sa_nil))) (se_one (se_callB (cr_all rfl) o_all (by rfl) T.z_all (by decide +kernel) (sa_cons (se_lc (own := [("_law_part", 1)]) rfl sc_l_is_deed.nd (si_any (se_ix ix_seq o_ix (se_var 0 (pv 0)) se_int (fun _ _ => rfl))) (blkOk_by (N := n_l_is_deed) (sc := defScope (topS 33)) (by decide +kernel)) (fun _ _ _ _ _ => (sg_name (pg_name (i := 1) sc_l_is_deed.nd rfl (by first | exact Or.inl rfl | exact Or.inr rfl)))) (fun _ _ _ _ _ => pts0) (fun _ _ _ _ _ => (se_call (fnG_gq (G_l_is_int T)) (hr.mono (by omega)) hgd takes0 (by rfl) T.g_l_is_int T.u_l_is_int.kp T.b_l_is_int (gq_arity fnM_arity) (sa_cons (se_var 1 (pv 1)) sa_nil)))) sa_nil)))))))))
theorem G_is_deed : FnG P w K mg base 4 T.f_is_deed T.d_is_deed ["value"] F_is_deed :=
  fnG_mkX (k := 3) (.of T.u_is_deed) sc_is_deed fun cdv A outer s H E hr hgd tk =>
      (sb_cons (ss_if (PW.pt (sw_or (st_not (st_of (se_callB call_isi o_isi (by rfl) T.z_isinstance (by decide +kernel) (sa_cons (se_var 0 (pv 0)) (sa_cons (se_c (v := .ty "tuple") (pe_bltn (u := .type "tuple") (by rfl) T.z_tuple (by decide +kernel) rfl) fun _ _ _ => .ty "tuple") sa_nil))))) (sw_or1 (st_cmp (op_neA hr.units) o_ne (se_callB call_lenAll o_len (by rfl) T.z_len (by decide +kernel) (sa_cons (se_var 0 (pv 0)) sa_nil)) (se_c (v := .int 6) (pe_glob (by rfl) T.c_DEED_PARTS ⟨_, rfl⟩) fun _ _ _ => .int 6) (nomark _))))) (sb_one (ss_ret se_bl)) sb_nil)
      (sb_cons (ss_as (se_var 0 (pv 0)) (sg_tup rfl (sgs_cons (sg_name (pg_name (i := 1) sc_is_deed.nd rfl (by first | exact Or.inl rfl | exact Or.inr rfl))) (sgs_cons (sg_name (pg_name (i := 2) sc_is_deed.nd rfl (by first | exact Or.inl rfl | exact Or.inr rfl))) (sgs_cons (sg_name (pg_name (i := 3) sc_is_deed.nd rfl (by first | exact Or.inl rfl | exact Or.inr rfl))) (sgs_cons (sg_name (pg_name (i := 4) sc_is_deed.nd rfl (by first | exact Or.inl rfl | exact Or.inr rfl))) (sgs_cons (sg_name (pg_name (i := 5) sc_is_deed.nd rfl (by first | exact Or.inl rfl | exact Or.inr rfl))) (sgs_cons (sg_name (pg_name (i := 6) sc_is_deed.nd rfl (by first | exact Or.inl rfl | exact Or.inr rfl))) sgs_nil gT0_noerr) (gTc_noerr gN_noerr gT0_noerr)) (gTc_noerr gN_noerr (gTc_noerr gN_noerr gT0_noerr))) (gTc_noerr gN_noerr (gTc_noerr gN_noerr (gTc_noerr gN_noerr gT0_noerr)))) (gTc_noerr gN_noerr (gTc_noerr gN_noerr (gTc_noerr gN_noerr (gTc_noerr gN_noerr gT0_noerr))))) (gTc_noerr gN_noerr (gTc_noerr gN_noerr (gTc_noerr gN_noerr (gTc_noerr gN_noerr (gTc_noerr gN_noerr gT0_noerr)))))) (by rfl) (gTc_len (gTc_len (gTc_len (gTc_len (gTc_len (gTc_len gT0_len)))))) (gTc_noerr gN_noerr (gTc_noerr gN_noerr (gTc_noerr gN_noerr (gTc_noerr gN_noerr (gTc_noerr gN_noerr (gTc_noerr gN_noerr gT0_noerr))))))))
      (sb_cons (ss_if (PW.pt (sw_or (st_not (st_of (se_call (fnG_gq (G_is_stamp T)) (hr.mono (by omega)) hgd tk (by rfl) T.g_is_stamp T.u_is_stamp.kp T.b_is_stamp (gq_arity fnM_arity) (sa_cons (se_var 1 (pv 1)) sa_nil)))) (sw_or (st_not (st_of (se_call (fnG_gq (G_is_name T)) (hr.mono (by omega)) hgd tk (by rfl) T.g_is_name T.u_is_name.kp T.b_is_name (gq_arity fnM_arity) (sa_cons (se_var 2 (pv 2)) sa_nil)))) (sw_or (st_not (st_of (se_call (fnG_gq (G_is_name T)) (hr.mono (by omega)) hgd tk (by rfl) T.g_is_name T.u_is_name.kp T.b_is_name (gq_arity fnM_arity) (sa_cons (se_var 3 (pv 3)) sa_nil)))) (sw_or1 (st_not (st_of (se_call (fnG_gq (G_is_count_texts T)) (hr.mono (by omega)) hgd tk (by rfl) T.g_is_count_texts T.u_is_count_texts.kp T.b_is_count_texts (gq_arity fnM_arity) (sa_cons (se_var 4 (pv 4)) sa_nil))))))))) (sb_one (ss_ret se_bl)) sb_nil)
      (sb_cons (ss_if (PW.pt (sw_or (st_not (st_of (se_callB call_isi o_isi (by rfl) T.z_isinstance (by decide +kernel) (sa_cons (se_var 5 (pv 5)) (sa_cons (se_c (v := .ty "tuple") (pe_bltn (u := .type "tuple") (by rfl) T.z_tuple (by decide +kernel) rfl) fun _ _ _ => .ty "tuple") sa_nil))))) (sw_or1 (st_not (st_of (se_callB call_isi o_isi (by rfl) T.z_isinstance (by decide +kernel) (sa_cons (se_var 6 (pv 6)) (sa_cons (se_c (v := .ty "tuple") (pe_bltn (u := .type "tuple") (by rfl) T.z_tuple (by decide +kernel) rfl) fun _ _ _ => .ty "tuple") sa_nil)))))))) (sb_one (ss_ret se_bl)) sb_nil)
      (sb_one (ss_ret (se_and (se_callB (cr_all rfl) o_all (by rfl) T.z_all (by decide +kernel) (sa_cons (se_lc (own := [("part", 7)]) rfl sc_is_deed.nd (si_any (se_var 5 (pv 5))) (blkOk_by (N := n_is_deed) (sc := defScope (topS 23)) (by decide +kernel)) (fun _ _ _ _ _ => (sg_name (pg_name (i := 7) sc_is_deed.nd rfl (by first | exact Or.inl rfl | exact Or.inr rfl)))) (fun _ _ _ _ _ => pts0) (fun _ _ _ _ _ => (se_call (fnG_gq (G_is_send T)) (hr.mono (by omega)) hgd takes0 (by rfl) T.g_is_send T.u_is_send.kp T.b_is_send (gq_arity fnM_arity) (sa_cons (se_var 7 (pv 7)) sa_nil)))) sa_nil)) (se_one (se_callB (cr_all rfl) o_all (by rfl) T.z_all (by decide +kernel) (sa_cons (se_lc (own := [("part", 7)]) rfl sc_is_deed.nd (si_any (se_var 6 (pv 6))) (blkOk_by (N := n_is_deed) (sc := defScope (topS 23)) (by decide +kernel)) (fun _ _ _ _ _ => (sg_name (pg_name (i := 7) sc_is_deed.nd rfl (by first | exact Or.inl rfl | exact Or.inr rfl)))) (fun _ _ _ _ _ => pts0) (fun _ _ _ _ _ => (se_call (fnG_gq (G_is_count_texts T)) (hr.mono (by omega)) hgd takes0 (by rfl) T.g_is_count_texts T.u_is_count_texts.kp T.b_is_count_texts (gq_arity fnM_arity) (sa_cons (se_var 7 (pv 7)) sa_nil)))) sa_nil))))))))))
theorem G_show_deed : FnG P w K mg base 5 T.f_show_deed T.d_show_deed ["deed"] F_show_deed :=
  fnG_mkX (k := 4) (.of T.u_show_deed) sc_show_deed fun cdv A outer s H E hr hgd tk =>
      (sb_cons (ss_if (st_not (st_of (se_call (fnG_gq (G_is_deed T)) (hr.mono (by omega)) hgd tk (by rfl) T.g_is_deed T.u_is_deed.kp T.b_is_deed (gq_arity fnM_arity) (sa_cons (se_var 0 (pv 0)) sa_nil)))) (sb_one (ss_raise T.e_BadValue T.b_BadValue (hr.mono (by omega)) rfl tk (by rfl) T.g_BadValue T.ca_BadValue (se_var 0 (pv 0)))) sb_nil)
      (sb_cons (ss_as (se_var 0 (pv 0)) (sg_tup rfl (sgs_cons (sg_name (pg_name (i := 1) sc_show_deed.nd rfl (by first | exact Or.inl rfl | exact Or.inr rfl))) (sgs_cons (sg_name (pg_name (i := 2) sc_show_deed.nd rfl (by first | exact Or.inl rfl | exact Or.inr rfl))) (sgs_cons (sg_name (pg_name (i := 3) sc_show_deed.nd rfl (by first | exact Or.inl rfl | exact Or.inr rfl))) (sgs_cons (sg_name (pg_name (i := 4) sc_show_deed.nd rfl (by first | exact Or.inl rfl | exact Or.inr rfl))) (sgs_cons (sg_name (pg_name (i := 5) sc_show_deed.nd rfl (by first | exact Or.inl rfl | exact Or.inr rfl))) (sgs_cons (sg_name (pg_name (i := 6) sc_show_deed.nd rfl (by first | exact Or.inl rfl | exact Or.inr rfl))) sgs_nil gT0_noerr) (gTc_noerr gN_noerr gT0_noerr)) (gTc_noerr gN_noerr (gTc_noerr gN_noerr gT0_noerr))) (gTc_noerr gN_noerr (gTc_noerr gN_noerr (gTc_noerr gN_noerr gT0_noerr)))) (gTc_noerr gN_noerr (gTc_noerr gN_noerr (gTc_noerr gN_noerr (gTc_noerr gN_noerr gT0_noerr))))) (gTc_noerr gN_noerr (gTc_noerr gN_noerr (gTc_noerr gN_noerr (gTc_noerr gN_noerr (gTc_noerr gN_noerr gT0_noerr)))))) (by rfl) (gTc_len (gTc_len (gTc_len (gTc_len (gTc_len (gTc_len gT0_len)))))) (gTc_noerr gN_noerr (gTc_noerr gN_noerr (gTc_noerr gN_noerr (gTc_noerr gN_noerr (gTc_noerr gN_noerr (gTc_noerr gN_noerr gT0_noerr))))))))
      (sb_cons (ss_set (i := 7) sc_show_deed.nd rfl (by first | exact Or.inl rfl | exact Or.inr rfl) (se_lst (sa_cons (se_callV (fnV_gq (G_line_of T)) (hr.mono (by omega)) hgd tk (by rfl) T.g_line_of T.u_line_of.kp (sa_cons (se_call (fnG_gq (G_show_stamp T)) (hr.mono (by omega)) hgd tk (by rfl) T.g_show_stamp T.u_show_stamp.kp T.b_show_stamp (gq_arity fnM_arity) (sa_cons (se_var 1 (pv 1)) sa_nil)) (sa_cons (se_var 2 (pv 2)) (sa_cons (se_var 3 (pv 3)) (sa_cons (se_var 4 (pv 4)) sa_nil))))) sa_nil)))
      (sb_cons (ss_expr (se_lm (name := "extend") o_ext (se_var 7 (pv 7)) (sa_cons (se_lc (own := [("line", 8), ("number", 9), ("at", 10), ("sent", 11)]) rfl sc_show_deed.nd (si_any (se_var 5 (pv 5))) (blkOk_by (N := n_show_deed) (sc := defScope (topS 24)) (by decide +kernel)) (fun _ _ _ _ _ => (sg_tup rfl (sgs_cons (sg_name (pg_name (i := 8) sc_show_deed.nd rfl (by first | exact Or.inl rfl | exact Or.inr rfl))) (sgs_cons (sg_name (pg_name (i := 9) sc_show_deed.nd rfl (by first | exact Or.inl rfl | exact Or.inr rfl))) (sgs_cons (sg_name (pg_name (i := 10) sc_show_deed.nd rfl (by first | exact Or.inl rfl | exact Or.inr rfl))) (sgs_cons (sg_name (pg_name (i := 11) sc_show_deed.nd rfl (by first | exact Or.inl rfl | exact Or.inr rfl))) sgs_nil gT0_noerr) (gTc_noerr gN_noerr gT0_noerr)) (gTc_noerr gN_noerr (gTc_noerr gN_noerr gT0_noerr))) (gTc_noerr gN_noerr (gTc_noerr gN_noerr (gTc_noerr gN_noerr gT0_noerr)))) (by rfl) (gTc_len (gTc_len (gTc_len (gTc_len gT0_len)))) (gTc_noerr gN_noerr (gTc_noerr gN_noerr (gTc_noerr gN_noerr (gTc_noerr gN_noerr gT0_noerr)))))) (fun _ _ _ _ _ => pts0) (fun _ _ _ _ _ => (se_callV (fnV_gq (G_line_of T)) (hr.mono (by omega)) hgd takes0 (by rfl) T.g_line_of T.u_line_of.kp (sa_cons se_str (sa_cons (se_var 8 (pv 8)) (sa_cons (se_var 9 (pv 9)) (sa_cons (se_call (fnG_gq (G_show_stamp T)) (hr.mono (by omega)) hgd takes0 (by rfl) T.g_show_stamp T.u_show_stamp.kp T.b_show_stamp (gq_arity fnM_arity) (sa_cons (se_var 10 (pv 10)) sa_nil)) (sa_cons (se_var 11 (pv 11)) sa_nil)))))))) sa_nil) (fun h1 h2 => pe_bm PySem.F.plainAttrs_list PySem.F.slot_list_extend PySem.F.type_list_extend mt_extend h1 h2)))
      (sb_cons (ss_expr (se_lm (name := "extend") o_ext (se_var 7 (pv 7)) (sa_cons (se_lc (own := [("one", 12)]) rfl sc_show_deed.nd (si_any (se_var 6 (pv 6))) (blkOk_by (N := n_show_deed) (sc := defScope (topS 24)) (by decide +kernel)) (fun _ _ _ _ _ => (sg_name (pg_name (i := 12) sc_show_deed.nd rfl (by first | exact Or.inl rfl | exact Or.inr rfl)))) (fun _ _ _ _ _ => pts0) (fun _ _ _ _ _ => (se_callV (fnV_gq (G_line_of T)) (hr.mono (by omega)) hgd takes0 (by rfl) T.g_line_of T.u_line_of.kp (sa_cons se_str (sa_cons (se_var 12 (pv 12)) sa_nil))))) sa_nil) (fun h1 h2 => pe_bm PySem.F.plainAttrs_list PySem.F.slot_list_extend PySem.F.type_list_extend mt_extend h1 h2)))
      (sb_one (ss_ret (se_sm (name := "join") o_join (se_c (v := .str (PySem.Str.ofString " ")) (pe_glob (by rfl) T.c_BLANK ⟨_, rfl⟩) fun _ _ _ => .str _) (se_var 7 (pv 7)) (fun h1 h2 => pe_joinR h1 h2)))))))))
theorem G_l_kept : FnG P w K mg base 6 T.f_l_kept T.d_l_kept ["_law_thing"] F_l_kept :=
  fnG_mkX (k := 5) (.of T.u_l_kept) sc_l_kept fun cdv A outer s H E hr hgd tk =>
      (sb_cons (ss_as (se_tup (sa_cons se_non (sa_cons se_non sa_nil))) (sg_tup rfl (sgs_cons (sg_name (pg_name (i := 1) sc_l_kept.nd rfl (by first | exact Or.inl rfl | exact Or.inr rfl))) (sgs_cons (sg_name (pg_name (i := 2) sc_l_kept.nd rfl (by first | exact Or.inl rfl | exact Or.inr rfl))) sgs_nil gT0_noerr) (gTc_noerr gN_noerr gT0_noerr)) (by rfl) (gTc_len (gTc_len gT0_len)) (gTc_noerr gN_noerr (gTc_noerr gN_noerr gT0_noerr))))
      (sb_cons (ss_try (jt := 2) (i := 3) (j := 1) (errs := ["BadModel", "BadValue"]) rfl rfl rfl sc_l_kept.nd (by rfl) (by rfl) (by rfl) (by rfl) (by rfl) (by rfl) ⟨by rfl, by decide, .inl T.g_FarError⟩ tk (herr_of (her_FarError T)) (fun W2 pn xe tk => (se_call (fnG_gq (G_show_deed T)) (hr.mono (by omega)) hgd tk (by rfl) T.g_show_deed T.u_show_deed.kp T.b_show_deed (gq_arity fnM_arity) (sa_cons (se_var 0 (pv 0)) sa_nil))))
      (sb_cons (ss_if (st_cmp op_isN o_isN (se_var 1 (pv 1)) se_non (nomark _)) (sb_one (ss_ret (se_tup (sa_cons se_str (sa_cons (se_var 2 (pv 2)) sa_nil))))) sb_nil)
      (sb_cons (ss_set (i := 4) sc_l_kept.nd rfl (by first | exact Or.inl rfl | exact Or.inr rfl) (se_and (se_isx (c := .ref T.C_BadValue) (cv := .ref T.C_BadValue) (l := [("BadModel", false), ("BadValue", true)]) (by rfl) T.z_isinstance (pe_glob (by rfl) T.g_BadValue rfl) (fun _ h => h) (isx_of (isx_BadValue T)) (se_var 1 (pv 1))) (se_and (se_not (se_isx (c := .ref T.C_BadModel) (cv := .ref T.C_BadModel) (l := [("BadModel", true), ("BadValue", false)]) (by rfl) T.z_isinstance (pe_glob (by rfl) T.g_BadModel rfl) (fun _ h => h) (isx_of (isx_BadModel T)) (se_var 1 (pv 1)))) (se_one (se_isx (c := .ty "ValueError") (cv := .type "ValueError") (l := [("BadModel", true), ("BadValue", true)]) (by rfl) T.z_isinstance (pe_bltn (u := .type "ValueError") (by rfl) T.z_ValueError (by decide +kernel) rfl) (fun _ h => h) (isx_of (isx_ValueError T)) (se_var 1 (pv 1)))))))
      (sb_one (ss_ret (se_if (st_of (se_var 4 (pv 4))) (se_tup (sa_cons se_str (sa_cons (se_xf (errs := ["BadModel", "BadValue"]) (xf_of (xf_value T)) (se_var 1 (pv 1))) sa_nil))) (se_tup (sa_cons se_str (sa_cons se_non sa_nil))))))))))
theorem S_l_bent : ∀ n : Nat, FnG P w K mg base (3 + n) T.f_l_bent T.d_l_bent ["_law_pot_here", "_law_thing", "_law_deep"] (F_l_bent n)
  | 0 => by
    (simp only [F_l_bent]; exact fnG_no)
  | n + 1 => by
    have ih := S_l_bent n
    rw [F_l_bent]
    exact fnG_mkX (k := 3 + n) (.of T.u_l_bent) sc_l_bent fun cdv A outer s H E hr hgd tk =>
      (sb_cons (ss_if (PW.pt (sw_or (st_cmp (op_eqA hr.units) o_eq (se_var 2 (pv 2)) se_int (nomark _)) (sw_or (st_not (st_of (se_callB call_isi o_isi (by rfl) T.z_isinstance (by decide +kernel) (sa_cons (se_var 1 (pv 1)) (sa_cons (se_c (v := .ty "tuple") (pe_bltn (u := .type "tuple") (by rfl) T.z_tuple (by decide +kernel) rfl) fun _ _ _ => .ty "tuple") sa_nil))))) (sw_or (st_cmp (op_eqE hr.units) o_eqE (se_var 1 (pv 1)) (se_tup sa_nil) (nomark _)) (sw_or1 (st_cmp (op_eqA hr.units) o_eq (se_call (fnG_gq (G_l_take T)) (hr.mono (by omega)) hgd tk (by rfl) T.g_l_take T.u_l_take.kp T.b_l_take (gq_arity fnM_arity) (sa_cons (se_var 0 (pv 0)) (sa_cons se_int sa_nil))) se_int (nomark _))))))) (sb_one (ss_ret (se_call (G_l_odd T) (hr.mono (by omega)) hgd tk (by rfl) T.g_l_odd T.u_l_odd.kp T.b_l_odd fnM_arity (sa_cons (se_var 0 (pv 0)) (sa_cons (se_var 1 (pv 1)) sa_nil))))) sb_nil)
      (sb_cons (ss_set (i := 3) sc_l_bent.nd rfl (by first | exact Or.inl rfl | exact Or.inr rfl) (se_call (fnG_gq (G_l_take T)) (hr.mono (by omega)) hgd tk (by rfl) T.g_l_take T.u_l_take.kp T.b_l_take (gq_arity fnM_arity) (sa_cons (se_var 0 (pv 0)) (sa_cons (se_callB call_lenAll o_len (by rfl) T.z_len (by decide +kernel) (sa_cons (se_var 1 (pv 1)) sa_nil)) sa_nil))))
      (sb_one (ss_ret (se_op op_addAll o_add (se_op op_addAll o_add (se_slice (se_var 1 (pv 1)) sp_none (sp_some (se_var 3 (pv 3)))) (se_tup (sa_cons (se_call ih (hr.mono (by omega)) hgd tk (by rfl) T.g_l_bent T.u_l_bent.kp T.b_l_bent (A_l_bent n) (sa_cons (se_var 0 (pv 0)) (sa_cons (se_ix ix_seq o_ix (se_var 1 (pv 1)) (se_var 3 (pv 3)) (fun _ _ => rfl)) (sa_cons (se_op op_sub o_sub (se_var 2 (pv 2)) se_int) sa_nil)))) sa_nil))) (se_slice (se_var 1 (pv 1)) (sp_some (se_op op_addAll o_add (se_var 3 (pv 3)) se_int)) sp_none))))))
theorem G_l_bent (n : Nat) : FnG P w K mg base (3 + n) T.f_l_bent T.d_l_bent ["_law_pot_here", "_law_thing", "_law_deep"] (F_l_bent n) := (S_l_bent T n)
theorem G_l_right : FnG P w K mg base 12 T.f_l_right T.d_l_right ["_law_pot_here"] F_l_right :=
  fnG_mkX (k := 11) (.of T.u_l_right) sc_l_right fun cdv A outer s H E hr hgd tk =>
      (sb_cons (ss_set (i := 1) sc_l_right.nd rfl (by first | exact Or.inl rfl | exact Or.inr rfl) (se_call (fnG_gq (G_l_deed T)) (hr.mono (by omega)) hgd tk (by rfl) T.g_l_deed T.u_l_deed.kp T.b_l_deed (gq_arity fnM_arity) (sa_cons (se_var 0 (pv 0)) sa_nil)))
      (sb_cons (ss_set (i := 2) sc_l_right.nd rfl (by first | exact Or.inl rfl | exact Or.inr rfl) (se_call (G_l_bent T 8) (hr.mono (by omega)) hgd tk (by rfl) T.g_l_bent T.u_l_bent.kp T.b_l_bent (A_l_bent 8) (sa_cons (se_var 0 (pv 0)) (sa_cons (se_var 1 (pv 1)) (sa_cons se_int sa_nil)))))
      (sb_cons (ss_for (passes_of rfl) rfl (si_any (se_lst (sa_cons (se_var 1 (pv 1)) (sa_cons (se_var 2 (pv 2)) (sa_cons (se_call (G_l_bent T 8) (hr.mono (by omega)) hgd tk (by rfl) T.g_l_bent T.u_l_bent.kp T.b_l_bent (A_l_bent 8) (sa_cons (se_var 0 (pv 0)) (sa_cons (se_var 2 (pv 2)) (sa_cons se_int sa_nil)))) (sa_cons (se_call (G_l_odd T) (hr.mono (by omega)) hgd tk (by rfl) T.g_l_odd T.u_l_odd.kp T.b_l_odd fnM_arity (sa_cons (se_var 0 (pv 0)) (sa_cons (se_tup sa_nil) sa_nil))) sa_nil)))))) (sg_name (pg_name (i := 3) sc_l_right.nd rfl (by first | exact Or.inl rfl | exact Or.inr rfl))) (sb_cons (ss_set (i := 4) sc_l_right.nd rfl (by first | exact Or.inl rfl | exact Or.inr rfl) (se_callB (call_reprX hr hgd) o_reprX (by rfl) T.z_repr (by decide +kernel) (sa_cons (se_var 3 (pv 3)) sa_nil)))
      (sb_cons (ss_set (i := 5) sc_l_right.nd rfl (by first | exact Or.inl rfl | exact Or.inr rfl) (se_if (st_of (se_call (fnG_gq (G_l_is_deed T)) (hr.mono (by omega)) hgd tk (by rfl) T.g_l_is_deed T.u_l_is_deed.kp T.b_l_is_deed (gq_arity fnM_arity) (sa_cons (se_var 3 (pv 3)) sa_nil))) (se_tup (sa_cons se_str (sa_cons (se_call (fnG_gq (G_l_written T)) (hr.mono (by omega)) hgd tk (by rfl) T.g_l_written T.u_l_written.kp T.b_l_written (gq_arity fnM_arity) (sa_cons (se_var 3 (pv 3)) sa_nil)) sa_nil))) (se_tup (sa_cons se_str (sa_cons (se_var 3 (pv 3)) sa_nil)))))
      (sb_one (ss_if (PW.pt (sw_or (st_cmp (op_neA hr.units) o_ne (se_callB (call_reprX hr hgd) o_reprX (by rfl) T.z_repr (by decide +kernel) (sa_cons (se_call (fnG_gq (G_l_kept T)) (hr.mono (by omega)) hgd tk (by rfl) T.g_l_kept T.u_l_kept.kp T.b_l_kept (gq_arity fnM_arity) (sa_cons (se_var 3 (pv 3)) sa_nil)) sa_nil)) (se_callB (call_reprX hr hgd) o_reprX (by rfl) T.z_repr (by decide +kernel) (sa_cons (se_var 5 (pv 5)) sa_nil)) (nomark _)) (sw_or1 (st_cmp (op_neA hr.units) o_ne (se_callB (call_reprX hr hgd) o_reprX (by rfl) T.z_repr (by decide +kernel) (sa_cons (se_var 3 (pv 3)) sa_nil)) (se_var 4 (pv 4)) (nomark _))))) (sb_one (ss_ret se_bl)) sb_nil)))))
      (sb_one (ss_ret (se_cmp (op_eqA hr.units) o_eq (se_callK0 (ix := [0]) (fnG_gq (G_show_deed T)) (hr.mono (by omega)) hgd tk (by rfl) T.g_show_deed T.u_show_deed.kp (kb_show_deed_deed T) (gq_arity fnM_arity) (sk_cons (se_var 1 (pv 1)) sk_nil)) (se_call (fnG_gq (G_l_written T)) (hr.mono (by omega)) hgd tk (by rfl) T.g_l_written T.u_l_written.kp T.b_l_written (gq_arity fnM_arity) (sa_cons (se_var 1 (pv 1)) sa_nil)) (nomark _)))))))
theorem G_law : FnG P w K mg base 13 T.f_law T.d_law ["_law_script"] F_law :=
  fnG_mkX (k := 12) (.of T.u_law) sc_law fun cdv A outer s H E hr hgd tk =>
      (sb_cons (ss_for (passes_of rfl) rfl (si_range1 (by rfl) T.z_range (sa_cons (se_callB (call_max2 rfl) o_max (by rfl) T.z_max (by decide +kernel) (sa_cons se_int (sa_cons (se_callB (call_min2 rfl) o_min (by rfl) T.z_min (by decide +kernel) (sa_cons se_int (sa_cons (se_callB call_lenAll o_len (by rfl) T.z_len (by decide +kernel) (sa_cons (se_var 0 (pv 0)) sa_nil)) sa_nil))) sa_nil))) sa_nil)) (sg_name (pg_name (i := 1) sc_law.nd rfl (by first | exact Or.inl rfl | exact Or.inr rfl))) (sb_cons (ss_set (i := 2) sc_law.nd rfl (by first | exact Or.inl rfl | exact Or.inr rfl) (se_call (fnG_gq (G_l_pot T)) (hr.mono (by omega)) hgd tk (by rfl) T.g_l_pot T.u_l_pot.kp T.b_l_pot (gq_arity fnM_arity) (sa_cons (se_var 0 (pv 0)) (sa_cons (se_var 1 (pv 1)) sa_nil))))
      (sb_one (ss_if (st_not (st_of (se_callB (cr_all rfl) o_all (by rfl) T.z_all (by decide +kernel) (sa_cons (se_lc (own := [("_law_turn", 3)]) rfl sc_law.nd (si_range1 (by rfl) T.z_range (sa_cons se_int sa_nil)) (blkOk_by (N := n_law) (sc := defScope (topS 40)) (by decide +kernel)) (fun _ _ _ _ _ => (sg_name (pg_name (i := 3) sc_law.nd rfl (by first | exact Or.inl rfl | exact Or.inr rfl)))) (fun _ _ _ _ _ => pts0) (fun _ _ _ _ _ => (se_call (fnG_gq (G_l_right T)) (hr.mono (by omega)) hgd takes0 (by rfl) T.g_l_right T.u_l_right.kp T.b_l_right (gq_arity fnM_arity) (sa_cons (se_var 2 (pv 2)) sa_nil)))) sa_nil)))) (sb_one (ss_ret se_bl)) sb_nil))))
      (sb_one (ss_ret se_bl)))
end
theorem all_mk {P : Program} {w : World} {K : PySem.W.Frag} {h : Heap} {mg : Str → Option Value} (X : K.In h) (G : h.Ns mainGlobals mg)
    {f_is_name : Addr} {od_is_name an_is_name : Option Addr} {sl_is_name : Array (Option Value)} {oc_is_name kV_is_name dc_is_name pm_is_name cd_is_name ct_is_name : Value}
    (a_is_name : PySem.W.nsIn K mainGlobals "is_name" = some (some (.ref f_is_name)))
    (l_is_name : K.lookup f_is_name = some ⟨oc_is_name, od_is_name, .func (PySem.W.fnOf "is_name" "is_name" (defArgs (topS 7)) (defBody (topS 7)) (defScope (topS 7)) .none kV_is_name dc_is_name pm_is_name an_is_name cd_is_name ct_is_name), sl_is_name⟩)
    (k1_is_name : PySem.W.codeIn K cd_is_name "is_name" = true) (k2_is_name : PySem.W.keepIn K (.ref f_is_name) = true)
    {f_is_count_stamps : Addr} {od_is_count_stamps an_is_count_stamps : Option Addr} {sl_is_count_stamps : Array (Option Value)} {oc_is_count_stamps kV_is_count_stamps dc_is_count_stamps pm_is_count_stamps cd_is_count_stamps ct_is_count_stamps : Value}
    (a_is_count_stamps : PySem.W.nsIn K mainGlobals "is_count_stamps" = some (some (.ref f_is_count_stamps)))
    (l_is_count_stamps : K.lookup f_is_count_stamps = some ⟨oc_is_count_stamps, od_is_count_stamps, .func (PySem.W.fnOf "is_count" "is_count" (defArgs (topS 10)) (defBody (topS 10)) (defScope (topS 10)) .none kV_is_count_stamps dc_is_count_stamps pm_is_count_stamps an_is_count_stamps cd_is_count_stamps ct_is_count_stamps), sl_is_count_stamps⟩)
    (k1_is_count_stamps : PySem.W.codeIn K cd_is_count_stamps "is_count" = true) (k2_is_count_stamps : PySem.W.keepIn K (.ref f_is_count_stamps) = true)
    {f_is_stamp : Addr} {od_is_stamp an_is_stamp : Option Addr} {sl_is_stamp : Array (Option Value)} {oc_is_stamp kV_is_stamp dc_is_stamp pm_is_stamp cd_is_stamp ct_is_stamp : Value}
    (a_is_stamp : PySem.W.nsIn K mainGlobals "is_stamp" = some (some (.ref f_is_stamp)))
    (l_is_stamp : K.lookup f_is_stamp = some ⟨oc_is_stamp, od_is_stamp, .func (PySem.W.fnOf "is_stamp" "is_stamp" (defArgs (topS 12)) (defBody (topS 12)) (defScope (topS 12)) .none kV_is_stamp dc_is_stamp pm_is_stamp an_is_stamp cd_is_stamp ct_is_stamp), sl_is_stamp⟩)
    (k1_is_stamp : PySem.W.codeIn K cd_is_stamp "is_stamp" = true) (k2_is_stamp : PySem.W.keepIn K (.ref f_is_stamp) = true)
    {f_show_stamp : Addr} {od_show_stamp an_show_stamp : Option Addr} {sl_show_stamp : Array (Option Value)} {oc_show_stamp kV_show_stamp dc_show_stamp pm_show_stamp cd_show_stamp ct_show_stamp : Value}
    (a_show_stamp : PySem.W.nsIn K mainGlobals "show_stamp" = some (some (.ref f_show_stamp)))
    (l_show_stamp : K.lookup f_show_stamp = some ⟨oc_show_stamp, od_show_stamp, .func (PySem.W.fnOf "show_stamp" "show_stamp" (defArgs (topS 18)) (defBody (topS 18)) (defScope (topS 18)) .none kV_show_stamp dc_show_stamp pm_show_stamp an_show_stamp cd_show_stamp ct_show_stamp), sl_show_stamp⟩)
    (k1_show_stamp : PySem.W.codeIn K cd_show_stamp "show_stamp" = true) (k2_show_stamp : PySem.W.keepIn K (.ref f_show_stamp) = true)
    {f_line_of : Addr} {od_line_of an_line_of : Option Addr} {sl_line_of : Array (Option Value)} {oc_line_of kV_line_of dc_line_of pm_line_of cd_line_of ct_line_of : Value}
    (a_line_of : PySem.W.nsIn K mainGlobals "line_of" = some (some (.ref f_line_of)))
    (l_line_of : K.lookup f_line_of = some ⟨oc_line_of, od_line_of, .func (PySem.W.fnOf "line_of" "line_of" (defArgs (topS 19)) (defBody (topS 19)) (defScope (topS 19)) .none kV_line_of dc_line_of pm_line_of an_line_of cd_line_of ct_line_of), sl_line_of⟩)
    (k1_line_of : PySem.W.codeIn K cd_line_of "line_of" = true) (k2_line_of : PySem.W.keepIn K (.ref f_line_of) = true)
    {f_is_count_texts : Addr} {od_is_count_texts an_is_count_texts : Option Addr} {sl_is_count_texts : Array (Option Value)} {oc_is_count_texts kV_is_count_texts dc_is_count_texts pm_is_count_texts cd_is_count_texts ct_is_count_texts : Value}
    (a_is_count_texts : PySem.W.nsIn K mainGlobals "is_count_texts" = some (some (.ref f_is_count_texts)))
    (l_is_count_texts : K.lookup f_is_count_texts = some ⟨oc_is_count_texts, od_is_count_texts, .func (PySem.W.fnOf "is_count" "is_count" (defArgs (topS 20)) (defBody (topS 20)) (defScope (topS 20)) .none kV_is_count_texts dc_is_count_texts pm_is_count_texts an_is_count_texts cd_is_count_texts ct_is_count_texts), sl_is_count_texts⟩)
    (k1_is_count_texts : PySem.W.codeIn K cd_is_count_texts "is_count" = true) (k2_is_count_texts : PySem.W.keepIn K (.ref f_is_count_texts) = true)
    {f_is_send : Addr} {od_is_send an_is_send : Option Addr} {sl_is_send : Array (Option Value)} {oc_is_send kV_is_send dc_is_send pm_is_send cd_is_send ct_is_send : Value}
    (a_is_send : PySem.W.nsIn K mainGlobals "is_send" = some (some (.ref f_is_send)))
    (l_is_send : K.lookup f_is_send = some ⟨oc_is_send, od_is_send, .func (PySem.W.fnOf "is_send" "is_send" (defArgs (topS 22)) (defBody (topS 22)) (defScope (topS 22)) .none kV_is_send dc_is_send pm_is_send an_is_send cd_is_send ct_is_send), sl_is_send⟩)
    (k1_is_send : PySem.W.codeIn K cd_is_send "is_send" = true) (k2_is_send : PySem.W.keepIn K (.ref f_is_send) = true)
    {f_is_deed : Addr} {od_is_deed an_is_deed : Option Addr} {sl_is_deed : Array (Option Value)} {oc_is_deed kV_is_deed dc_is_deed pm_is_deed cd_is_deed ct_is_deed : Value}
    (a_is_deed : PySem.W.nsIn K mainGlobals "is_deed" = some (some (.ref f_is_deed)))
    (l_is_deed : K.lookup f_is_deed = some ⟨oc_is_deed, od_is_deed, .func (PySem.W.fnOf "is_deed" "is_deed" (defArgs (topS 23)) (defBody (topS 23)) (defScope (topS 23)) .none kV_is_deed dc_is_deed pm_is_deed an_is_deed cd_is_deed ct_is_deed), sl_is_deed⟩)
    (k1_is_deed : PySem.W.codeIn K cd_is_deed "is_deed" = true) (k2_is_deed : PySem.W.keepIn K (.ref f_is_deed) = true)
    {f_show_deed : Addr} {od_show_deed an_show_deed : Option Addr} {sl_show_deed : Array (Option Value)} {oc_show_deed kV_show_deed dc_show_deed pm_show_deed cd_show_deed ct_show_deed : Value}
    (a_show_deed : PySem.W.nsIn K mainGlobals "show_deed" = some (some (.ref f_show_deed)))
    (l_show_deed : K.lookup f_show_deed = some ⟨oc_show_deed, od_show_deed, .func (PySem.W.fnOf "show_deed" "show_deed" (defArgs (topS 24)) (defBody (topS 24)) (defScope (topS 24)) .none kV_show_deed dc_show_deed pm_show_deed an_show_deed cd_show_deed ct_show_deed), sl_show_deed⟩)
    (k1_show_deed : PySem.W.codeIn K cd_show_deed "show_deed" = true) (k2_show_deed : PySem.W.keepIn K (.ref f_show_deed) = true)
    {f_l_pot : Addr} {od_l_pot an_l_pot : Option Addr} {sl_l_pot : Array (Option Value)} {oc_l_pot kV_l_pot dc_l_pot pm_l_pot cd_l_pot ct_l_pot : Value}
    (a_l_pot : PySem.W.nsIn K mainGlobals "_law_pot" = some (some (.ref f_l_pot)))
    (l_l_pot : K.lookup f_l_pot = some ⟨oc_l_pot, od_l_pot, .func (PySem.W.fnOf "_law_pot" "_law_pot" (defArgs (topS 26)) (defBody (topS 26)) (defScope (topS 26)) .none kV_l_pot dc_l_pot pm_l_pot an_l_pot cd_l_pot ct_l_pot), sl_l_pot⟩)
    (k1_l_pot : PySem.W.codeIn K cd_l_pot "_law_pot" = true) (k2_l_pot : PySem.W.keepIn K (.ref f_l_pot) = true)
    {f_l_take : Addr} {od_l_take an_l_take : Option Addr} {sl_l_take : Array (Option Value)} {oc_l_take kV_l_take dc_l_take pm_l_take cd_l_take ct_l_take : Value}
    (a_l_take : PySem.W.nsIn K mainGlobals "_law_take" = some (some (.ref f_l_take)))
    (l_l_take : K.lookup f_l_take = some ⟨oc_l_take, od_l_take, .func (PySem.W.fnOf "_law_take" "_law_take" (defArgs (topS 27)) (defBody (topS 27)) (defScope (topS 27)) .none kV_l_take dc_l_take pm_l_take an_l_take cd_l_take ct_l_take), sl_l_take⟩)
    (k1_l_take : PySem.W.codeIn K cd_l_take "_law_take" = true) (k2_l_take : PySem.W.keepIn K (.ref f_l_take) = true)
    {f_l_of : Addr} {od_l_of an_l_of : Option Addr} {sl_l_of : Array (Option Value)} {oc_l_of kV_l_of dc_l_of pm_l_of cd_l_of ct_l_of : Value}
    (a_l_of : PySem.W.nsIn K mainGlobals "_law_of" = some (some (.ref f_l_of)))
    (l_l_of : K.lookup f_l_of = some ⟨oc_l_of, od_l_of, .func (PySem.W.fnOf "_law_of" "_law_of" (defArgs (topS 28)) (defBody (topS 28)) (defScope (topS 28)) .none kV_l_of dc_l_of pm_l_of an_l_of cd_l_of ct_l_of), sl_l_of⟩)
    (k1_l_of : PySem.W.codeIn K cd_l_of "_law_of" = true) (k2_l_of : PySem.W.keepIn K (.ref f_l_of) = true)
    {f_l_is_int : Addr} {od_l_is_int an_l_is_int : Option Addr} {sl_l_is_int : Array (Option Value)} {oc_l_is_int kV_l_is_int dc_l_is_int pm_l_is_int cd_l_is_int ct_l_is_int : Value}
    (a_l_is_int : PySem.W.nsIn K mainGlobals "_law_is_int" = some (some (.ref f_l_is_int)))
    (l_l_is_int : K.lookup f_l_is_int = some ⟨oc_l_is_int, od_l_is_int, .func (PySem.W.fnOf "_law_is_int" "_law_is_int" (defArgs (topS 29)) (defBody (topS 29)) (defScope (topS 29)) .none kV_l_is_int dc_l_is_int pm_l_is_int an_l_is_int cd_l_is_int ct_l_is_int), sl_l_is_int⟩)
    (k1_l_is_int : PySem.W.codeIn K cd_l_is_int "_law_is_int" = true) (k2_l_is_int : PySem.W.keepIn K (.ref f_l_is_int) = true)
    {f_l_is_name : Addr} {od_l_is_name an_l_is_name : Option Addr} {sl_l_is_name : Array (Option Value)} {oc_l_is_name kV_l_is_name dc_l_is_name pm_l_is_name cd_l_is_name ct_l_is_name : Value}
    (a_l_is_name : PySem.W.nsIn K mainGlobals "_law_is_name" = some (some (.ref f_l_is_name)))
    (l_l_is_name : K.lookup f_l_is_name = some ⟨oc_l_is_name, od_l_is_name, .func (PySem.W.fnOf "_law_is_name" "_law_is_name" (defArgs (topS 30)) (defBody (topS 30)) (defScope (topS 30)) .none kV_l_is_name dc_l_is_name pm_l_is_name an_l_is_name cd_l_is_name ct_l_is_name), sl_l_is_name⟩)
    (k1_l_is_name : PySem.W.codeIn K cd_l_is_name "_law_is_name" = true) (k2_l_is_name : PySem.W.keepIn K (.ref f_l_is_name) = true)
    {f_l_is_moment : Addr} {od_l_is_moment an_l_is_moment : Option Addr} {sl_l_is_moment : Array (Option Value)} {oc_l_is_moment kV_l_is_moment dc_l_is_moment pm_l_is_moment cd_l_is_moment ct_l_is_moment : Value}
    (a_l_is_moment : PySem.W.nsIn K mainGlobals "_law_is_moment" = some (some (.ref f_l_is_moment)))
    (l_l_is_moment : K.lookup f_l_is_moment = some ⟨oc_l_is_moment, od_l_is_moment, .func (PySem.W.fnOf "_law_is_moment" "_law_is_moment" (defArgs (topS 31)) (defBody (topS 31)) (defScope (topS 31)) .none kV_l_is_moment dc_l_is_moment pm_l_is_moment an_l_is_moment cd_l_is_moment ct_l_is_moment), sl_l_is_moment⟩)
    (k1_l_is_moment : PySem.W.codeIn K cd_l_is_moment "_law_is_moment" = true) (k2_l_is_moment : PySem.W.keepIn K (.ref f_l_is_moment) = true)
    {f_l_is_letter : Addr} {od_l_is_letter an_l_is_letter : Option Addr} {sl_l_is_letter : Array (Option Value)} {oc_l_is_letter kV_l_is_letter dc_l_is_letter pm_l_is_letter cd_l_is_letter ct_l_is_letter : Value}
    (a_l_is_letter : PySem.W.nsIn K mainGlobals "_law_is_letter" = some (some (.ref f_l_is_letter)))
    (l_l_is_letter : K.lookup f_l_is_letter = some ⟨oc_l_is_letter, od_l_is_letter, .func (PySem.W.fnOf "_law_is_letter" "_law_is_letter" (defArgs (topS 32)) (defBody (topS 32)) (defScope (topS 32)) .none kV_l_is_letter dc_l_is_letter pm_l_is_letter an_l_is_letter cd_l_is_letter ct_l_is_letter), sl_l_is_letter⟩)
    (k1_l_is_letter : PySem.W.codeIn K cd_l_is_letter "_law_is_letter" = true) (k2_l_is_letter : PySem.W.keepIn K (.ref f_l_is_letter) = true)
    {f_l_is_deed : Addr} {od_l_is_deed an_l_is_deed : Option Addr} {sl_l_is_deed : Array (Option Value)} {oc_l_is_deed kV_l_is_deed dc_l_is_deed pm_l_is_deed cd_l_is_deed ct_l_is_deed : Value}
    (a_l_is_deed : PySem.W.nsIn K mainGlobals "_law_is_deed" = some (some (.ref f_l_is_deed)))
    (l_l_is_deed : K.lookup f_l_is_deed = some ⟨oc_l_is_deed, od_l_is_deed, .func (PySem.W.fnOf "_law_is_deed" "_law_is_deed" (defArgs (topS 33)) (defBody (topS 33)) (defScope (topS 33)) .none kV_l_is_deed dc_l_is_deed pm_l_is_deed an_l_is_deed cd_l_is_deed ct_l_is_deed), sl_l_is_deed⟩)
    (k1_l_is_deed : PySem.W.codeIn K cd_l_is_deed "_law_is_deed" = true) (k2_l_is_deed : PySem.W.keepIn K (.ref f_l_is_deed) = true)
    {f_l_written : Addr} {od_l_written an_l_written : Option Addr} {sl_l_written : Array (Option Value)} {oc_l_written kV_l_written dc_l_written pm_l_written cd_l_written ct_l_written : Value}
    (a_l_written : PySem.W.nsIn K mainGlobals "_law_written" = some (some (.ref f_l_written)))
    (l_l_written : K.lookup f_l_written = some ⟨oc_l_written, od_l_written, .func (PySem.W.fnOf "_law_written" "_law_written" (defArgs (topS 34)) (defBody (topS 34)) (defScope (topS 34)) .none kV_l_written dc_l_written pm_l_written an_l_written cd_l_written ct_l_written), sl_l_written⟩)
    (k1_l_written : PySem.W.codeIn K cd_l_written "_law_written" = true) (k2_l_written : PySem.W.keepIn K (.ref f_l_written) = true)
    {f_l_odd : Addr} {od_l_odd an_l_odd : Option Addr} {sl_l_odd : Array (Option Value)} {oc_l_odd kV_l_odd dc_l_odd pm_l_odd cd_l_odd ct_l_odd : Value}
    (a_l_odd : PySem.W.nsIn K mainGlobals "_law_odd" = some (some (.ref f_l_odd)))
    (l_l_odd : K.lookup f_l_odd = some ⟨oc_l_odd, od_l_odd, .func (PySem.W.fnOf "_law_odd" "_law_odd" (defArgs (topS 35)) (defBody (topS 35)) (defScope (topS 35)) .none kV_l_odd dc_l_odd pm_l_odd an_l_odd cd_l_odd ct_l_odd), sl_l_odd⟩)
    (k1_l_odd : PySem.W.codeIn K cd_l_odd "_law_odd" = true) (k2_l_odd : PySem.W.keepIn K (.ref f_l_odd) = true)
    {f_l_bent : Addr} {od_l_bent an_l_bent : Option Addr} {sl_l_bent : Array (Option Value)} {oc_l_bent kV_l_bent dc_l_bent pm_l_bent cd_l_bent ct_l_bent : Value}
    (a_l_bent : PySem.W.nsIn K mainGlobals "_law_bent" = some (some (.ref f_l_bent)))
    (l_l_bent : K.lookup f_l_bent = some ⟨oc_l_bent, od_l_bent, .func (PySem.W.fnOf "_law_bent" "_law_bent" (defArgs (topS 36)) (defBody (topS 36)) (defScope (topS 36)) .none kV_l_bent dc_l_bent pm_l_bent an_l_bent cd_l_bent ct_l_bent), sl_l_bent⟩)
    (k1_l_bent : PySem.W.codeIn K cd_l_bent "_law_bent" = true) (k2_l_bent : PySem.W.keepIn K (.ref f_l_bent) = true)
    {f_l_deed : Addr} {od_l_deed an_l_deed : Option Addr} {sl_l_deed : Array (Option Value)} {oc_l_deed kV_l_deed dc_l_deed pm_l_deed cd_l_deed ct_l_deed : Value}
    (a_l_deed : PySem.W.nsIn K mainGlobals "_law_deed" = some (some (.ref f_l_deed)))
    (l_l_deed : K.lookup f_l_deed = some ⟨oc_l_deed, od_l_deed, .func (PySem.W.fnOf "_law_deed" "_law_deed" (defArgs (topS 37)) (defBody (topS 37)) (defScope (topS 37)) .none kV_l_deed dc_l_deed pm_l_deed an_l_deed cd_l_deed ct_l_deed), sl_l_deed⟩)
    (k1_l_deed : PySem.W.codeIn K cd_l_deed "_law_deed" = true) (k2_l_deed : PySem.W.keepIn K (.ref f_l_deed) = true)
    {f_l_kept : Addr} {od_l_kept an_l_kept : Option Addr} {sl_l_kept : Array (Option Value)} {oc_l_kept kV_l_kept dc_l_kept pm_l_kept cd_l_kept ct_l_kept : Value}
    (a_l_kept : PySem.W.nsIn K mainGlobals "_law_kept" = some (some (.ref f_l_kept)))
    (l_l_kept : K.lookup f_l_kept = some ⟨oc_l_kept, od_l_kept, .func (PySem.W.fnOf "_law_kept" "_law_kept" (defArgs (topS 38)) (defBody (topS 38)) (defScope (topS 38)) .none kV_l_kept dc_l_kept pm_l_kept an_l_kept cd_l_kept ct_l_kept), sl_l_kept⟩)
    (k1_l_kept : PySem.W.codeIn K cd_l_kept "_law_kept" = true) (k2_l_kept : PySem.W.keepIn K (.ref f_l_kept) = true)
    {f_l_right : Addr} {od_l_right an_l_right : Option Addr} {sl_l_right : Array (Option Value)} {oc_l_right kV_l_right dc_l_right pm_l_right cd_l_right ct_l_right : Value}
    (a_l_right : PySem.W.nsIn K mainGlobals "_law_right" = some (some (.ref f_l_right)))
    (l_l_right : K.lookup f_l_right = some ⟨oc_l_right, od_l_right, .func (PySem.W.fnOf "_law_right" "_law_right" (defArgs (topS 39)) (defBody (topS 39)) (defScope (topS 39)) .none kV_l_right dc_l_right pm_l_right an_l_right cd_l_right ct_l_right), sl_l_right⟩)
    (k1_l_right : PySem.W.codeIn K cd_l_right "_law_right" = true) (k2_l_right : PySem.W.keepIn K (.ref f_l_right) = true)
    {f_law : Addr} {od_law an_law : Option Addr} {sl_law : Array (Option Value)} {oc_law kV_law dc_law pm_law cd_law ct_law : Value}
    (a_law : PySem.W.nsIn K mainGlobals "law" = some (some (.ref f_law)))
    (l_law : K.lookup f_law = some ⟨oc_law, od_law, .func (PySem.W.fnOf "law" "law" (defArgs (topS 40)) (defBody (topS 40)) (defScope (topS 40)) .none kV_law dc_law pm_law an_law cd_law ct_law), sl_law⟩)
    (k1_law : PySem.W.codeIn K cd_law "law" = true) (k2_law : PySem.W.keepIn K (.ref f_law) = true)
    (opq : PySem.W.nsIn K cStatics "thirdparty.any" = some none) (nosup : PySem.W.nsIn K mainGlobals "super" = some none) (htop : (P.main.scope.names.lookup ("super" : Str)).isSome = false) (ocl1 : PySem.W.specialIn K (.builtin "object.__class__") "__get__" = some (some (.builtin "getset_descriptor.__get__"))) (ocl2 : PySem.W.takesIn K (.builtin "object.__class__") = some true)
    {C_FarError : Addr} (aC_FarError : PySem.W.nsIn K mainGlobals "FarError" = some (some (.ref C_FarError))) (hd_FarError : PySem.W.hasDictIn K C_FarError = true) (tC_FarError : PySem.W.typeIn K (.ref C_FarError) = some (.type "type")) (xC_FarError : PySem.W.subIn K (.ref C_FarError) (.type "BaseException") = some true)
    {C_BadModel fI_BadModel cc_BadModel cda_BadModel N_BadModel : Addr} {od_BadModel an_BadModel cld_BadModel cdd_BadModel dd_BadModel : Option Addr} {osl_BadModel csl_BadModel ccs_BadModel : Array (Option Value)} {oc_BadModel kV_BadModel dc_BadModel pm_BadModel ct_BadModel cl_BadModel ccl_BadModel : Value} {vs_BadModel : Array Value} {file_BadModel nm_BadModel qn_BadModel : Str} {tf_BadModel : Tok} {bs_BadModel bm_BadModel sub_BadModel : List Value} {sn_BadModel : List Str} {ab_BadModel : Bool} {col_BadModel : Option Bool} {s0_BadModel s1_BadModel s2_BadModel s3_BadModel s5_BadModel : Option Value}
    (aC_BadModel : PySem.W.nsIn K mainGlobals "BadModel" = some (some (.ref C_BadModel)))
    (kcl_BadModel : K.lookup C_BadModel = some (excClassObj nm_BadModel qn_BadModel C_BadModel N_BadModel bs_BadModel bm_BadModel true sn_BadModel sub_BadModel ab_BadModel col_BadModel dd_BadModel s0_BadModel s1_BadModel s2_BadModel s3_BadModel s5_BadModel "ValueError.__new__"))
    (rve_BadModel : PySem.HandSPX.refsVE bm_BadModel = true)
    (sa_BadModel : PySem.W.findIn K (.ref C_BadModel) "__setattr__" = some (some (.builtin "object.__setattr__")))
    (xC_BadModel : PySem.W.subIn K (.ref C_BadModel) (.type "BaseException") = some true)
    (tC_BadModel : PySem.W.typeIn K (.ref C_BadModel) = some (.type "type"))
    (kC_BadModel : PySem.W.keepIn K (.ref C_BadModel) = true)
    (fi_BadModel : PySem.W.findIn K (.ref C_BadModel) "__init__" = some (some (.ref fI_BadModel)))
    (ft_BadModel : PySem.W.typeIn K (.ref fI_BadModel) = some (.type "function"))
    (fl_BadModel : PySem.W.findIn K (.ref C_BadModel) "value" = some none)
    (su_BadModel : PySem.W.ks_superIn K C_BadModel C_BadModel "__init__" = some (some (.builtin "ValueError.__init__")))
    (sb_BadModel : PySem.W.subIn K (.ref C_BadModel) (.type "ValueError") = some true)
    (ow_BadModel : PySem.W.mroIn K C_BadModel (.ref C_BadModel) = some true)
    (lk_BadModel : K.lookup fI_BadModel = some ⟨oc_BadModel, od_BadModel, .func (PySem.W.ksFn "__init__" "BadModel.__init__" (defArgs (inClass (topS 2) 0)) (defBody (inClass (topS 2) 0)) (defScope (inClass (topS 2) 0)) .none kV_BadModel dc_BadModel pm_BadModel an_BadModel (.ref cda_BadModel) ct_BadModel cc_BadModel), osl_BadModel⟩)
    (cd_BadModel : PySem.W.codeIn K (.ref cda_BadModel) "BadModel.__init__" = true)
    (ce_BadModel : K.lookup cc_BadModel = some ⟨cl_BadModel, cld_BadModel, .cell (some (.ref C_BadModel)), csl_BadModel⟩)
    (co_BadModel : K.lookup cda_BadModel = some ⟨ccl_BadModel, cdd_BadModel, .fields vs_BadModel, ccs_BadModel⟩)
    (vf_BadModel : vs_BadModel[2]? = some (.str file_BadModel tf_BadModel))
    (hf_BadModel : ((P.main.file : Str) == file_BadModel) = true)
    (ga_BadModel : PySem.W.findIn K (.ref C_BadModel) "__getattribute__" = some (some (.builtin "BaseException.__getattribute__")))
    (gg_BadModel : PySem.W.findIn K (.ref C_BadModel) "__getattr__" = some none)
    (hd_BadModel : PySem.W.hasDictIn K C_BadModel = true)
    (hc_BadModel : PySem.W.findIn K (.ref C_BadModel) "__class__" = some (some (.builtin "object.__class__")))
    (mo_BadModel : PySem.W.mroIn K C_BadModel (.type "object") = some true)
    (xFarError_BadModel : PySem.W.subIn K (.ref C_BadModel) (.ref C_FarError) = some true)
    {C_BadValue fI_BadValue cc_BadValue cda_BadValue N_BadValue : Addr} {od_BadValue an_BadValue cld_BadValue cdd_BadValue dd_BadValue : Option Addr} {osl_BadValue csl_BadValue ccs_BadValue : Array (Option Value)} {oc_BadValue kV_BadValue dc_BadValue pm_BadValue ct_BadValue cl_BadValue ccl_BadValue : Value} {vs_BadValue : Array Value} {file_BadValue nm_BadValue qn_BadValue : Str} {tf_BadValue : Tok} {bs_BadValue bm_BadValue sub_BadValue : List Value} {sn_BadValue : List Str} {ab_BadValue : Bool} {col_BadValue : Option Bool} {s0_BadValue s1_BadValue s2_BadValue s3_BadValue s5_BadValue : Option Value}
    (aC_BadValue : PySem.W.nsIn K mainGlobals "BadValue" = some (some (.ref C_BadValue)))
    (kcl_BadValue : K.lookup C_BadValue = some (excClassObj nm_BadValue qn_BadValue C_BadValue N_BadValue bs_BadValue bm_BadValue true sn_BadValue sub_BadValue ab_BadValue col_BadValue dd_BadValue s0_BadValue s1_BadValue s2_BadValue s3_BadValue s5_BadValue "ValueError.__new__"))
    (rve_BadValue : PySem.HandSPX.refsVE bm_BadValue = true)
    (sa_BadValue : PySem.W.findIn K (.ref C_BadValue) "__setattr__" = some (some (.builtin "object.__setattr__")))
    (xC_BadValue : PySem.W.subIn K (.ref C_BadValue) (.type "BaseException") = some true)
    (tC_BadValue : PySem.W.typeIn K (.ref C_BadValue) = some (.type "type"))
    (kC_BadValue : PySem.W.keepIn K (.ref C_BadValue) = true)
    (fi_BadValue : PySem.W.findIn K (.ref C_BadValue) "__init__" = some (some (.ref fI_BadValue)))
    (ft_BadValue : PySem.W.typeIn K (.ref fI_BadValue) = some (.type "function"))
    (fl_BadValue : PySem.W.findIn K (.ref C_BadValue) "value" = some none)
    (su_BadValue : PySem.W.ks_superIn K C_BadValue C_BadValue "__init__" = some (some (.builtin "ValueError.__init__")))
    (sb_BadValue : PySem.W.subIn K (.ref C_BadValue) (.type "ValueError") = some true)
    (ow_BadValue : PySem.W.mroIn K C_BadValue (.ref C_BadValue) = some true)
    (lk_BadValue : K.lookup fI_BadValue = some ⟨oc_BadValue, od_BadValue, .func (PySem.W.ksFn "__init__" "BadValue.__init__" (defArgs (inClass (topS 3) 0)) (defBody (inClass (topS 3) 0)) (defScope (inClass (topS 3) 0)) .none kV_BadValue dc_BadValue pm_BadValue an_BadValue (.ref cda_BadValue) ct_BadValue cc_BadValue), osl_BadValue⟩)
    (cd_BadValue : PySem.W.codeIn K (.ref cda_BadValue) "BadValue.__init__" = true)
    (ce_BadValue : K.lookup cc_BadValue = some ⟨cl_BadValue, cld_BadValue, .cell (some (.ref C_BadValue)), csl_BadValue⟩)
    (co_BadValue : K.lookup cda_BadValue = some ⟨ccl_BadValue, cdd_BadValue, .fields vs_BadValue, ccs_BadValue⟩)
    (vf_BadValue : vs_BadValue[2]? = some (.str file_BadValue tf_BadValue))
    (hf_BadValue : ((P.main.file : Str) == file_BadValue) = true)
    (ga_BadValue : PySem.W.findIn K (.ref C_BadValue) "__getattribute__" = some (some (.builtin "BaseException.__getattribute__")))
    (gg_BadValue : PySem.W.findIn K (.ref C_BadValue) "__getattr__" = some none)
    (hd_BadValue : PySem.W.hasDictIn K C_BadValue = true)
    (hc_BadValue : PySem.W.findIn K (.ref C_BadValue) "__class__" = some (some (.builtin "object.__class__")))
    (mo_BadValue : PySem.W.mroIn K C_BadValue (.type "object") = some true)
    (xFarError_BadValue : PySem.W.subIn K (.ref C_BadValue) (.ref C_FarError) = some true)
    (nq_BadModel_BadValue : (Value.ref C_BadModel == Value.ref C_BadValue) = false) (sq_BadModel_BadValue : PySem.W.subIn K (.ref C_BadModel) (.ref C_BadValue) = some false)
    (nq_BadValue_BadModel : (Value.ref C_BadValue == Value.ref C_BadModel) = false) (sq_BadValue_BadModel : PySem.W.subIn K (.ref C_BadValue) (.ref C_BadModel) = some false)
    (y_ValueError : PySem.W.nsIn K mainGlobals "ValueError" = some none)
    (y_abs : PySem.W.nsIn K mainGlobals "abs" = some none)
    (y_all : PySem.W.nsIn K mainGlobals "all" = some none)
    (y_bool : PySem.W.nsIn K mainGlobals "bool" = some none)
    (y_int : PySem.W.nsIn K mainGlobals "int" = some none)
    (y_isinstance : PySem.W.nsIn K mainGlobals "isinstance" = some none)
    (y_len : PySem.W.nsIn K mainGlobals "len" = some none)
    (y_list : PySem.W.nsIn K mainGlobals "list" = some none)
    (y_max : PySem.W.nsIn K mainGlobals "max" = some none)
    (y_min : PySem.W.nsIn K mainGlobals "min" = some none)
    (y_range : PySem.W.nsIn K mainGlobals "range" = some none)
    (y_repr : PySem.W.nsIn K mainGlobals "repr" = some none)
    (y_str : PySem.W.nsIn K mainGlobals "str" = some none)
    (y_tuple : PySem.W.nsIn K mainGlobals "tuple" = some none)
    {tt_BLANK : Tok} (y_BLANK : PySem.W.nsIn K mainGlobals "BLANK" = some (some (.str (PySem.Str.ofString " ") tt_BLANK)))
    {tt_DEED_PARTS : Tok} (y_DEED_PARTS : PySem.W.nsIn K mainGlobals "DEED_PARTS" = some (some (.int 6 tt_DEED_PARTS)))
    {tt_LETTERS : Tok} (y_LETTERS : PySem.W.nsIn K mainGlobals "LETTERS" = some (some (.str (PySem.Str.ofString "abcdefghijklmnopqrstuvwxyz") tt_LETTERS)))
    {tt_MOST_LETTERS : Tok} (y_MOST_LETTERS : PySem.W.nsIn K mainGlobals "MOST_LETTERS" = some (some (.int 8 tt_MOST_LETTERS)))
    {tt_NEVER : Tok} (y_NEVER : PySem.W.nsIn K mainGlobals "NEVER" = some (some (.str (PySem.Str.ofString "never") tt_NEVER)))
    {tt_PARTS : Tok} (y_PARTS : PySem.W.nsIn K mainGlobals "PARTS" = some (some (.int 2 tt_PARTS)))
    {tt_SEND_PARTS : Tok} (y_SEND_PARTS : PySem.W.nsIn K mainGlobals "SEND_PARTS" = some (some (.int 4 tt_SEND_PARTS)))
    (lt : ∀ ns : List Int, ns.length ≤ 63 → ∃ S, F_law [.rls (ns.map D.int)] [] = .ok (.bl true) S) {fa : Addr} (hfa : mg "law" = some (.ref fa))
    : ∃ (fd : FuncData) (F : List D → M D), (∀ (s : Shared) (u : Value), BindsTo s fd ⟨[u], []⟩ [("_law_script", u)]) ∧ (∀ ns : List Int, ns.length ≤ 63 → ∃ S, F [.rls (ns.map D.int)] [] = .ok (.bl true) S) ∧
        ∀ base : Heap, K.In base → base.Ns mainGlobals mg → FnG P w K mg base 13 fa fd ["_law_script"] F := by
  have T0 : ∃ T : Tx P w K mg, True := ⟨{
    f_is_name := f_is_name, d_is_name := _, u_is_name := fun_mk (st := (topS 7)) l_is_name k1_is_name k2_is_name, g_is_name := PySem.W.mg_of X G a_is_name, b_is_name := (fun_mk (st := (topS 7)) l_is_name k1_is_name k2_is_name).binds (ps := ["value"]) fun _ _ _ _ _ _ us hl => match us, hl with | [_], _ => rfl,
    f_is_count_stamps := f_is_count_stamps, d_is_count_stamps := _, u_is_count_stamps := fun_mk (st := (topS 10)) l_is_count_stamps k1_is_count_stamps k2_is_count_stamps, g_is_count_stamps := PySem.W.mg_of X G a_is_count_stamps, b_is_count_stamps := (fun_mk (st := (topS 10)) l_is_count_stamps k1_is_count_stamps k2_is_count_stamps).binds (ps := ["value"]) fun _ _ _ _ _ _ us hl => match us, hl with | [_], _ => rfl,
    f_is_stamp := f_is_stamp, d_is_stamp := _, u_is_stamp := fun_mk (st := (topS 12)) l_is_stamp k1_is_stamp k2_is_stamp, g_is_stamp := PySem.W.mg_of X G a_is_stamp, b_is_stamp := (fun_mk (st := (topS 12)) l_is_stamp k1_is_stamp k2_is_stamp).binds (ps := ["value"]) fun _ _ _ _ _ _ us hl => match us, hl with | [_], _ => rfl,
    f_show_stamp := f_show_stamp, d_show_stamp := _, u_show_stamp := fun_mk (st := (topS 18)) l_show_stamp k1_show_stamp k2_show_stamp, g_show_stamp := PySem.W.mg_of X G a_show_stamp, b_show_stamp := (fun_mk (st := (topS 18)) l_show_stamp k1_show_stamp k2_show_stamp).binds (ps := ["stamp"]) fun _ _ _ _ _ _ us hl => match us, hl with | [_], _ => rfl,
    f_line_of := f_line_of, d_line_of := _, u_line_of := fun_mk (st := (topS 19)) l_line_of k1_line_of k2_line_of, g_line_of := PySem.W.mg_of X G a_line_of, v_line_of := fun rest => by cases rest <;> rfl,
    f_is_count_texts := f_is_count_texts, d_is_count_texts := _, u_is_count_texts := fun_mk (st := (topS 20)) l_is_count_texts k1_is_count_texts k2_is_count_texts, g_is_count_texts := PySem.W.mg_of X G a_is_count_texts, b_is_count_texts := (fun_mk (st := (topS 20)) l_is_count_texts k1_is_count_texts k2_is_count_texts).binds (ps := ["value"]) fun _ _ _ _ _ _ us hl => match us, hl with | [_], _ => rfl,
    f_is_send := f_is_send, d_is_send := _, u_is_send := fun_mk (st := (topS 22)) l_is_send k1_is_send k2_is_send, g_is_send := PySem.W.mg_of X G a_is_send, b_is_send := (fun_mk (st := (topS 22)) l_is_send k1_is_send k2_is_send).binds (ps := ["value"]) fun _ _ _ _ _ _ us hl => match us, hl with | [_], _ => rfl,
    f_is_deed := f_is_deed, d_is_deed := _, u_is_deed := fun_mk (st := (topS 23)) l_is_deed k1_is_deed k2_is_deed, g_is_deed := PySem.W.mg_of X G a_is_deed, b_is_deed := (fun_mk (st := (topS 23)) l_is_deed k1_is_deed k2_is_deed).binds (ps := ["value"]) fun _ _ _ _ _ _ us hl => match us, hl with | [_], _ => rfl,
    f_show_deed := f_show_deed, d_show_deed := _, u_show_deed := fun_mk (st := (topS 24)) l_show_deed k1_show_deed k2_show_deed, g_show_deed := PySem.W.mg_of X G a_show_deed, b_show_deed := (fun_mk (st := (topS 24)) l_show_deed k1_show_deed k2_show_deed).binds (ps := ["deed"]) fun _ _ _ _ _ _ us hl => match us, hl with | [_], _ => rfl,
    f_l_pot := f_l_pot, d_l_pot := _, u_l_pot := fun_mk (st := (topS 26)) l_l_pot k1_l_pot k2_l_pot, g_l_pot := PySem.W.mg_of X G a_l_pot, b_l_pot := (fun_mk (st := (topS 26)) l_l_pot k1_l_pot k2_l_pot).binds (ps := ["_law_script", "_law_k"]) fun _ _ _ _ _ _ us hl => match us, hl with | [_, _], _ => rfl,
    f_l_take := f_l_take, d_l_take := _, u_l_take := fun_mk (st := (topS 27)) l_l_take k1_l_take k2_l_take, g_l_take := PySem.W.mg_of X G a_l_take, b_l_take := (fun_mk (st := (topS 27)) l_l_take k1_l_take k2_l_take).binds (ps := ["_law_pot_here", "_law_upto"]) fun _ _ _ _ _ _ us hl => match us, hl with | [_, _], _ => rfl,
    f_l_of := f_l_of, d_l_of := _, u_l_of := fun_mk (st := (topS 28)) l_l_of k1_l_of k2_l_of, g_l_of := PySem.W.mg_of X G a_l_of, b_l_of := (fun_mk (st := (topS 28)) l_l_of k1_l_of k2_l_of).binds (ps := ["_law_pot_here", "_law_some"]) fun _ _ _ _ _ _ us hl => match us, hl with | [_, _], _ => rfl,
    f_l_is_int := f_l_is_int, d_l_is_int := _, u_l_is_int := fun_mk (st := (topS 29)) l_l_is_int k1_l_is_int k2_l_is_int, g_l_is_int := PySem.W.mg_of X G a_l_is_int, b_l_is_int := (fun_mk (st := (topS 29)) l_l_is_int k1_l_is_int k2_l_is_int).binds (ps := ["_law_thing"]) fun _ _ _ _ _ _ us hl => match us, hl with | [_], _ => rfl,
    f_l_is_name := f_l_is_name, d_l_is_name := _, u_l_is_name := fun_mk (st := (topS 30)) l_l_is_name k1_l_is_name k2_l_is_name, g_l_is_name := PySem.W.mg_of X G a_l_is_name, b_l_is_name := (fun_mk (st := (topS 30)) l_l_is_name k1_l_is_name k2_l_is_name).binds (ps := ["_law_thing"]) fun _ _ _ _ _ _ us hl => match us, hl with | [_], _ => rfl,
    f_l_is_moment := f_l_is_moment, d_l_is_moment := _, u_l_is_moment := fun_mk (st := (topS 31)) l_l_is_moment k1_l_is_moment k2_l_is_moment, g_l_is_moment := PySem.W.mg_of X G a_l_is_moment, b_l_is_moment := (fun_mk (st := (topS 31)) l_l_is_moment k1_l_is_moment k2_l_is_moment).binds (ps := ["_law_thing"]) fun _ _ _ _ _ _ us hl => match us, hl with | [_], _ => rfl,
    f_l_is_letter := f_l_is_letter, d_l_is_letter := _, u_l_is_letter := fun_mk (st := (topS 32)) l_l_is_letter k1_l_is_letter k2_l_is_letter, g_l_is_letter := PySem.W.mg_of X G a_l_is_letter, b_l_is_letter := (fun_mk (st := (topS 32)) l_l_is_letter k1_l_is_letter k2_l_is_letter).binds (ps := ["_law_thing"]) fun _ _ _ _ _ _ us hl => match us, hl with | [_], _ => rfl,
    f_l_is_deed := f_l_is_deed, d_l_is_deed := _, u_l_is_deed := fun_mk (st := (topS 33)) l_l_is_deed k1_l_is_deed k2_l_is_deed, g_l_is_deed := PySem.W.mg_of X G a_l_is_deed, b_l_is_deed := (fun_mk (st := (topS 33)) l_l_is_deed k1_l_is_deed k2_l_is_deed).binds (ps := ["_law_thing"]) fun _ _ _ _ _ _ us hl => match us, hl with | [_], _ => rfl,
    f_l_written := f_l_written, d_l_written := _, u_l_written := fun_mk (st := (topS 34)) l_l_written k1_l_written k2_l_written, g_l_written := PySem.W.mg_of X G a_l_written, b_l_written := (fun_mk (st := (topS 34)) l_l_written k1_l_written k2_l_written).binds (ps := ["_law_thing"]) fun _ _ _ _ _ _ us hl => match us, hl with | [_], _ => rfl,
    f_l_odd := f_l_odd, d_l_odd := _, u_l_odd := fun_mk (st := (topS 35)) l_l_odd k1_l_odd k2_l_odd, g_l_odd := PySem.W.mg_of X G a_l_odd, b_l_odd := (fun_mk (st := (topS 35)) l_l_odd k1_l_odd k2_l_odd).binds (ps := ["_law_pot_here", "_law_thing"]) fun _ _ _ _ _ _ us hl => match us, hl with | [_, _], _ => rfl,
    f_l_bent := f_l_bent, d_l_bent := _, u_l_bent := fun_mk (st := (topS 36)) l_l_bent k1_l_bent k2_l_bent, g_l_bent := PySem.W.mg_of X G a_l_bent, b_l_bent := (fun_mk (st := (topS 36)) l_l_bent k1_l_bent k2_l_bent).binds (ps := ["_law_pot_here", "_law_thing", "_law_deep"]) fun _ _ _ _ _ _ us hl => match us, hl with | [_, _, _], _ => rfl,
    f_l_deed := f_l_deed, d_l_deed := _, u_l_deed := fun_mk (st := (topS 37)) l_l_deed k1_l_deed k2_l_deed, g_l_deed := PySem.W.mg_of X G a_l_deed, b_l_deed := (fun_mk (st := (topS 37)) l_l_deed k1_l_deed k2_l_deed).binds (ps := ["_law_pot_here"]) fun _ _ _ _ _ _ us hl => match us, hl with | [_], _ => rfl,
    f_l_kept := f_l_kept, d_l_kept := _, u_l_kept := fun_mk (st := (topS 38)) l_l_kept k1_l_kept k2_l_kept, g_l_kept := PySem.W.mg_of X G a_l_kept, b_l_kept := (fun_mk (st := (topS 38)) l_l_kept k1_l_kept k2_l_kept).binds (ps := ["_law_thing"]) fun _ _ _ _ _ _ us hl => match us, hl with | [_], _ => rfl,
    f_l_right := f_l_right, d_l_right := _, u_l_right := fun_mk (st := (topS 39)) l_l_right k1_l_right k2_l_right, g_l_right := PySem.W.mg_of X G a_l_right, b_l_right := (fun_mk (st := (topS 39)) l_l_right k1_l_right k2_l_right).binds (ps := ["_law_pot_here"]) fun _ _ _ _ _ _ us hl => match us, hl with | [_], _ => rfl,
    f_law := f_law, d_law := _, u_law := fun_mk (st := (topS 40)) l_law k1_law k2_law, g_law := PySem.W.mg_of X G a_law, b_law := (fun_mk (st := (topS 40)) l_law k1_law k2_law).binds (ps := ["_law_script"]) fun _ _ _ _ _ _ us hl => match us, hl with | [_], _ => rfl,
    C_FarError := C_FarError, g_FarError := PySem.W.mg_of X G aC_FarError,
    C_BadModel := C_BadModel, fI_BadModel := fI_BadModel, fd_BadModel := _, g_BadModel := PySem.W.mg_of X G aC_BadModel, ca_BadModel := aC_BadModel,
    e_BadModel := ⟨⟨⟨nm_BadModel, qn_BadModel, N_BadModel, bs_BadModel, bm_BadModel, sn_BadModel, sub_BadModel, ab_BadModel, col_BadModel, dd_BadModel, s0_BadModel, s1_BadModel, s2_BadModel, s3_BadModel, s5_BadModel, kcl_BadModel, rve_BadModel⟩, sa_BadModel, xC_BadModel, tC_BadModel, kC_BadModel⟩, fi_BadModel, ft_BadModel, fl_BadModel, su_BadModel, sb_BadModel, ow_BadModel, opq, PySem.W.mg_none_of X G nosup, ⟨"BadModel.__init__", defArgs (inClass (topS 2) 0), defScope (inClass (topS 2) 0), .none, kV_BadModel, dc_BadModel, pm_BadModel, ct_BadModel, oc_BadModel, an_BadModel, od_BadModel, osl_BadModel, cc_BadModel, cda_BadModel, _, _, _, _, _, _, _, _, _, _, cl_BadModel, ccl_BadModel, cld_BadModel, cdd_BadModel, csl_BadModel, ccs_BadModel, vs_BadModel, file_BadModel, tf_BadModel, _, rfl, lk_BadModel, cd_BadModel, ce_BadModel, co_BadModel, vf_BadModel, hf_BadModel, htop, rfl, rfl, rfl, rfl, rfl, rfl, rfl, rfl, rfl, by decide +kernel, by decide +kernel⟩, by decide +kernel, by decide +kernel⟩,
    b_BadModel := fun _ us _ hl => match us, hl with | [_, _], _ => .of_eq rfl,
    xf_BadModel := ⟨ga_BadModel, gg_BadModel, xC_BadModel, hd_BadModel⟩, ec_BadModel := ⟨ga_BadModel, gg_BadModel, xC_BadModel, hd_BadModel, hc_BadModel, ocl1, ocl2, mo_BadModel⟩,
    C_BadValue := C_BadValue, fI_BadValue := fI_BadValue, fd_BadValue := _, g_BadValue := PySem.W.mg_of X G aC_BadValue, ca_BadValue := aC_BadValue,
    e_BadValue := ⟨⟨⟨nm_BadValue, qn_BadValue, N_BadValue, bs_BadValue, bm_BadValue, sn_BadValue, sub_BadValue, ab_BadValue, col_BadValue, dd_BadValue, s0_BadValue, s1_BadValue, s2_BadValue, s3_BadValue, s5_BadValue, kcl_BadValue, rve_BadValue⟩, sa_BadValue, xC_BadValue, tC_BadValue, kC_BadValue⟩, fi_BadValue, ft_BadValue, fl_BadValue, su_BadValue, sb_BadValue, ow_BadValue, opq, PySem.W.mg_none_of X G nosup, ⟨"BadValue.__init__", defArgs (inClass (topS 3) 0), defScope (inClass (topS 3) 0), .none, kV_BadValue, dc_BadValue, pm_BadValue, ct_BadValue, oc_BadValue, an_BadValue, od_BadValue, osl_BadValue, cc_BadValue, cda_BadValue, _, _, _, _, _, _, _, _, _, _, cl_BadValue, ccl_BadValue, cld_BadValue, cdd_BadValue, csl_BadValue, ccs_BadValue, vs_BadValue, file_BadValue, tf_BadValue, _, rfl, lk_BadValue, cd_BadValue, ce_BadValue, co_BadValue, vf_BadValue, hf_BadValue, htop, rfl, rfl, rfl, rfl, rfl, rfl, rfl, rfl, rfl, by decide +kernel, by decide +kernel⟩, by decide +kernel, by decide +kernel⟩,
    b_BadValue := fun _ us _ hl => match us, hl with | [_, _], _ => .of_eq rfl,
    xf_BadValue := ⟨ga_BadValue, gg_BadValue, xC_BadValue, hd_BadValue⟩, ec_BadValue := ⟨ga_BadValue, gg_BadValue, xC_BadValue, hd_BadValue, hc_BadValue, ocl1, ocl2, mo_BadValue⟩,
    xm_BadModel_FarError := PySem.W.exm_ref xC_FarError hd_FarError tC_FarError xFarError_BadModel,
    kt_BadModel_BadValue := kit_sub nq_BadModel_BadValue hd_BadValue tC_BadValue sq_BadModel_BadValue,
    kt_BadModel_BadModel := kit_same,
    kt_BadModel_ValueError := kit_ty (by decide +kernel) sb_BadModel,
    xm_BadValue_FarError := PySem.W.exm_ref xC_FarError hd_FarError tC_FarError xFarError_BadValue,
    kt_BadValue_BadValue := kit_same,
    kt_BadValue_BadModel := kit_sub nq_BadValue_BadModel hd_BadModel tC_BadModel sq_BadValue_BadModel,
    kt_BadValue_ValueError := kit_ty (by decide +kernel) sb_BadValue,
    z_ValueError := PySem.W.mg_none_of X G y_ValueError,
    z_abs := PySem.W.mg_none_of X G y_abs,
    z_all := PySem.W.mg_none_of X G y_all,
    z_bool := PySem.W.mg_none_of X G y_bool,
    z_int := PySem.W.mg_none_of X G y_int,
    z_isinstance := PySem.W.mg_none_of X G y_isinstance,
    z_len := PySem.W.mg_none_of X G y_len,
    z_list := PySem.W.mg_none_of X G y_list,
    z_max := PySem.W.mg_none_of X G y_max,
    z_min := PySem.W.mg_none_of X G y_min,
    z_range := PySem.W.mg_none_of X G y_range,
    z_repr := PySem.W.mg_none_of X G y_repr,
    z_str := PySem.W.mg_none_of X G y_str,
    z_tuple := PySem.W.mg_none_of X G y_tuple,
    t_BLANK := _, c_BLANK := PySem.W.mg_of X G y_BLANK,
    t_DEED_PARTS := _, c_DEED_PARTS := PySem.W.mg_of X G y_DEED_PARTS,
    t_LETTERS := _, c_LETTERS := PySem.W.mg_of X G y_LETTERS,
    t_MOST_LETTERS := _, c_MOST_LETTERS := PySem.W.mg_of X G y_MOST_LETTERS,
    t_NEVER := _, c_NEVER := PySem.W.mg_of X G y_NEVER,
    t_PARTS := _, c_PARTS := PySem.W.mg_of X G y_PARTS,
    t_SEND_PARTS := _, c_SEND_PARTS := PySem.W.mg_of X G y_SEND_PARTS }, trivial⟩
  obtain ⟨T, _⟩ := T0
  have e := hfa.symm.trans T.g_law
  cases e
  refine ⟨T.d_law, F_law, fun s u => ?_, lt, fun base _ _ => G_law T⟩
  obtain ⟨oc, od, kV, doc, pm, an, cdv, ct, osl, e, lk, hcd⟩ := T.u_law.ex
  rw [e]
  exact .of_eq rfl
end Lw
namespace Lw
open PySem PySem.Spec PyProof.Rows L2 Fa
local macro_rules | `(tactic| walk_at "ev") => `(tactic| simp only [bK_ok, bK_err, bK_bad, bnd_ap, ret_ap, fail_ap, mVar_ap, vK_some, mC_ap, m1_ap, m2_ap, k2_ap, mNil_ap, mCons_ap, kCons_ap, kCon_ap, mA_ap, mIf_ap, kIf_t, kIf_f, tOf_ap, isBl_ap, tNt_ap, kNt_ap, tAn_ap, kAn_t, kAn_f, tOr_ap, kOr_t, kOr_f, mNot_ap, kNot_ap, mAnd_ap, kAnd_t, kAnd_f, mOr_ap, kOrV_t, kOrV_f,
  sSeq_ap, sK_nx, sK_rt, sK_bk, sK_ct, sK_ex, sK_bad, oK_ok, oK_err, oK_bad, kNx_ap, kRt_ap, sEx_ap, sRet_ap, sRetN_ap, sNx_ap, sBad_ap, sIf_ap, kIfS_t, kIfS_f, gN_ap, gT_ap, gT_tt, gTc_ap, gT0_ap, sAs_ap, kAs_ap, kAs2_ok, sPar_ap, kPar_ap, gSubD_ap, kSub1_ap, kSub2_ap, kSub3_ap, fK_nx, fK_rt, fK_ex, mLM_ap, mRng1_ap, mRng2_ap, mSrc_ap, src_t, src_r, src_s, src_k,
  mChain_ap, kCh1_ap, kCh2_ap, kCh3_t, kCh3_f, mSl_ap, kSl1_ap, kSl2_ap, mSlT_ap, kTl1_ap, kTl2_ap, mP0_ap, mP_ap, intO_ap, sl_t, dfl_ap, mTM_ap, kTM_k, kTM_t, mMeth_ap, kMe1_ap, kMe2_ap, kMe3_ap, gFld_ap, kF1_ap, gSubA_ap, kSA1_ap, kSA2_ap, sPar3_ap, kPar3_ap, mkD_ap, mkR_ok, dct0D_ap, mDisp_ap, mPairs_nil, mPairs_cons, kPr1_ap, kPr2_ap, kPr3_ap, tuple_t, list_t, mZip_ap, zip_tt,
  wipeE, nc0, nc1, nc2, nc3, nc4, nc5, nc6, nc7, nc8, nc9, nc10, nc11, nc12, nc13, nc14, nc15, Int.reduceEq, Int.reduceLE, Int.reduceLT, Int.reduceSub, Int.reduceAdd,
  fnM_ap, tupD_ap, lstD_ap, le_line, Nat.reduceLeDiff, eq_self,
  add_ii, sub_ii, neg_i, lt_ii, le_ii, gt_ii, ge_ii, isN_n, isN_i, isN_t, isN_s, isN_b, isN_l, abs_i, max_ii, min_ii, int_i, int_b, len_t, len_r, eq_ii, eq_bb, eq_ss,
  List.map_cons, List.map_nil, List.cons_append, List.nil_append, List.append_nil, List.replicate_succ, List.replicate_zero, List.length_cons, List.length_nil, Nat.reduceSub, Nat.reduceAdd, Nat.sub_self, Nat.zero_add,
  List.getElem?_cons_succ, List.getElem?_cons_zero, List.set_cons_succ, List.set_cons_zero, Bool.not_true, Bool.not_false, decide_true, decide_false, if_true, if_false, reduceIte, Bool.false_eq_true])
local macro_rules | `(tactic| walk_at "ex") => `(tactic| simp only [bK_ok, bK_err, bK_bad, bnd_ap, ret_ap, fail_ap, mVar_ap, vK_some, mC_ap, m1_ap, m2_ap, k2_ap, mNil_ap, mCons_ap, kCons_ap, kCon_ap, mA_ap, mIf_ap, kIf_t, kIf_f, tOf_ap, isBl_ap, tNt_ap, kNt_ap, kAn_t, kAn_f, tOr_ap, kOr_t, kOr_f, mNot_ap, kNot_ap, mAnd_ap, kAnd_t, kAnd_f, mOr_ap, kOrV_t, kOrV_f,
  sSeq_ap, sK_nx, sK_rt, sK_bk, sK_ct, sK_ex, sK_bad, oK_ok, oK_err, oK_bad, kNx_ap, kRt_ap, sEx_ap, sRet_ap, sRetN_ap, sNx_ap, sBad_ap, sIf_ap, kIfS_t, kIfS_f, gN_ap, gT_ap, gT_tt, gTc_ap, gT0_ap, sAs_ap, kAs_ap, kAs2_ok, sPar_ap, kPar_ap, gSubD_ap, kSub1_ap, kSub2_ap, kSub3_ap, fK_nx, fK_rt, fK_ex, mLM_ap, mRng1_ap, mRng2_ap, mSrc_ap, src_t, src_r, src_s, src_k,
  mChain_ap, kCh1_ap, kCh2_ap, kCh3_t, kCh3_f, mSl_ap, kSl1_ap, kSl2_ap, mSlT_ap, kTl1_ap, kTl2_ap, mP0_ap, mP_ap, intO_ap, sl_t, dfl_ap, mTM_ap, kTM_k, kTM_t, mMeth_ap, kMe1_ap, kMe2_ap, kMe3_ap, gFld_ap, kF1_ap, gSubA_ap, kSA1_ap, kSA2_ap, sPar3_ap, kPar3_ap, mkD_ap, mkR_ok, dct0D_ap, mDisp_ap, mPairs_nil, mPairs_cons, kPr1_ap, kPr2_ap, kPr3_ap, tuple_t, list_t, mZip_ap, zip_tt,
  wipeE, nc0, nc1, nc2, nc3, nc4, nc5, nc6, nc7, nc8, nc9, nc10, nc11, nc12, nc13, nc14, nc15, Int.reduceEq, Int.reduceLE, Int.reduceLT, Int.reduceSub, Int.reduceAdd,
  fnM_ap, tupD_ap, lstD_ap, le_line, Nat.reduceLeDiff, eq_self,
  add_ii, sub_ii, neg_i, lt_ii, le_ii, gt_ii, ge_ii, isN_n, isN_i, isN_t, isN_s, isN_b, isN_l, abs_i, max_ii, min_ii, int_i, int_b, len_t, len_r, eq_ii, eq_bb, eq_ss,
  List.map_cons, List.map_nil, List.cons_append, List.nil_append, List.append_nil, List.replicate_succ, List.replicate_zero, List.length_cons, List.length_nil, Nat.reduceSub, Nat.reduceAdd, Nat.sub_self, Nat.zero_add,
  List.getElem?_cons_succ, List.getElem?_cons_zero, List.set_cons_succ, List.set_cons_zero, Bool.not_true, Bool.not_false, decide_true, decide_false, if_true, if_false, reduceIte, Bool.false_eq_true])
/-! ### drawing -/
def Pot (p : Nat) (S : Sto) (c : Nat) : Prop := ∃ a b k : Int, S[p]? = some (.lst [.int a, .int b, .int k]) ∧ 0 ≤ a ∧ 0 ≤ b ∧ b < 2305843009213693921 ∧ 0 ≤ k ∧ k ≤ (c : Int)
def Grw (p : Nat) (S S' : Sto) : Prop := S.length ≤ S'.length ∧ ∀ i, i ≠ p → i < S.length → S'[i]? = S[i]?
theorem Grw.refl (p : Nat) (S : Sto) : Grw p S S := ⟨Nat.le_refl _, fun _ _ _ => rfl⟩
theorem Grw.trans {p : Nat} {S S1 S2 : Sto} (a : Grw p S S1) (b : Grw p S1 S2) : Grw p S S2 := ⟨Nat.le_trans a.1 b.1, fun i h1 h2 => (b.2 i h1 (Nat.lt_of_lt_of_le h2 a.1)).trans (a.2 i h1 h2)⟩
theorem Grw.app (p : Nat) (S l : Sto) : Grw p S (S ++ l) := ⟨by simp, fun i _ h => List.getElem?_append_left h⟩
theorem Grw.set (p : Nat) (S : Sto) (o : MO) : Grw p S (S.set p o) := ⟨by simp, fun i h _ => List.getElem?_set_ne (Ne.symm h)⟩
theorem Grw.at {p i : Nat} {S S' : Sto} {o : MO} (g : Grw p S S') (h : i ≠ p) (e : S[i]? = some o) : S'[i]? = some o := (g.2 i h (List.getElem?_eq_some_iff.mp e).1).trans e
theorem Pot.mono {p : Nat} {S : Sto} {c c' : Nat} (h : Pot p S c) (hc : c ≤ c') : Pot p S c' := by
  obtain ⟨a, b, k, e, h1, h2, h3, h4, h5⟩ := h
  exact ⟨a, b, k, e, h1, h2, h3, h4, by omega⟩
theorem Pot.app {p : Nat} {S : Sto} {c : Nat} (h : Pot p S c) (l : Sto) : Pot p (S ++ l) c := by
  obtain ⟨a, b, k, e, r⟩ := h
  exact ⟨a, b, k, at_old e, r⟩
theorem Pot.lt {p : Nat} {S : Sto} {c : Nat} (h : Pot p S c) : p < S.length := by
  obtain ⟨a, b, k, e, r⟩ := h
  exact (List.getElem?_eq_some_iff.mp e).1
theorem Pot.off {p n : Nat} {S : Sto} {c : Nat} {o : MO} (h : Pot p S c) (hn : n ≠ p) : Pot p (S.set n o) c := by
  obtain ⟨a, b, k, e, r⟩ := h
  exact ⟨a, b, k, by rw [List.getElem?_set_ne hn]; exact e, r⟩
theorem mulC_l {i j : Int} (h1 : -18446744073709551616 < i) (h2 : i < 18446744073709551616) : mulC i j = true := by
  unfold mulC
  rw [decide_eq_true (show -(2 ^ 64) < i by omega), decide_eq_true (show i < 2 ^ 64 by omega)]
  rfl
theorem mulC_r {i j : Int} (h1 : -18446744073709551616 < j) (h2 : j < 18446744073709551616) : mulC i j = true := by
  unfold mulC
  rw [decide_eq_true (show -(2 ^ 64) < j by omega), decide_eq_true (show j < 2 ^ 64 by omega)]
  simp
theorem modC_p {i j : Int} (h : 0 < j) : modC i j = true := by
  unfold modC
  exact decide_eq_true (by omega)
theorem divC_p {i j : Int} (h : 0 < j) (h2 : j < 1073741824) : divC i j = true := by
  unfold divC
  rw [decide_eq_true (show j ≠ 0 by omega), decide_eq_true (show j.natAbs < 1073741824 by omega)]
  rfl
theorem fmod_r (a : Int) {n : Int} (h : 0 < n) : 0 ≤ a.fmod n ∧ a.fmod n < n := by
  rw [Int.fmod_eq_emod_of_nonneg _ (by omega)]
  exact ⟨Int.emod_nonneg _ (by omega), Int.emod_lt_of_pos _ h⟩
theorem fdiv_r {a n : Int} (ha : 0 ≤ a) (h : 0 < n) : 0 ≤ a.fdiv n := by
  rw [Int.fdiv_eq_ediv_of_nonneg _ (by omega)]
  exact Int.ediv_nonneg ha (by omega)
theorem powC_3 {i : Int} (h1 : -18446744073709551616 < i) (h2 : i < 18446744073709551616) : powC i 3 = true := by
  unfold powC
  have := intBits_le_64 (k := i) (by omega) (by omega)
  rw [decide_eq_true (show (0 : Int) ≤ 3 by decide), decide_eq_true (show (Builtin.Int.intBits i : Int) * 3 ≤ 2 ^ 27 by omega)]
  rfl
abbrev primes : List D := [.int 2147483647, .int 2147483629, .int 2147483587, .int 2147483579, .int 2147483563]
theorem prime_at {j : Int} (h0 : 0 ≤ j) (h5 : j < 5) : ∃ q : Int, atI primes j = some (.int q) ∧ 0 < q ∧ q < 2147483648 := by
  have : j = 0 ∨ j = 1 ∨ j = 2 ∨ j = 3 ∨ j = 4 := by omega
  rcases this with rfl | rfl | rfl | rfl | rfl
  · exact ⟨2147483647, rfl, by decide, by decide⟩
  · exact ⟨2147483629, rfl, by decide, by decide⟩
  · exact ⟨2147483587, rfl, by decide, by decide⟩
  · exact ⟨2147483579, rfl, by decide, by decide⟩
  · exact ⟨2147483563, rfl, by decide, by decide⟩
theorem take_ok {p : Nat} {S : Sto} {c : Nat} {n : Int} (hp : Pot p S c) (hc : c ≤ 1000000) (h0 : 0 < n) (h1 : n < 1073741824) : ∃ v S', F_l_take [.loc p, .int n] S = .ok (.int v) S' ∧ 0 ≤ v ∧ v < n ∧ Pot p S' (c + 1) ∧ Grw p S S' := by
  obtain ⟨a, b, k, e, ha, hb0, hb1, hk0, hk1⟩ := hp
  have hlt := (List.getElem?_eq_some_iff.mp e).1
  have x0 : ixD (.loc p) (.int 0) S = .ok (.int a) S := ix_l S e rfl
  have x2 : ixD (.loc p) (.int 2) S = .ok (.int k) S := ix_l S e rfl
  by_cases h : 0 < a
  · refine ⟨a.fmod n, S.set p (.lst [.int (a.fdiv n), .int b, .int k]), ?_, (fmod_r a h0).1, (fmod_r a h0).2, ⟨a.fdiv n, b, k, ?_, fdiv_r ha h0, hb0, hb1, hk0, by omega⟩, Grw.set _ _ _⟩
    · unfold F_l_take
      have hd := decide_eq_true h
      have m1 : modD (.int a) (.int n) S = .ok (.int (a.fmod n)) S := mod_ii _ _ _ (modC_p h0)
      have m2' : fdivD (.int a) (.int n) S = .ok (.int (a.fdiv n)) S := fdiv_ii _ _ _ (divC_p h0 h1)
      have s1 : setD (.loc p) (.int 0) (.int (a.fdiv n)) S = .ok () (S.set p (.lst [.int (a.fdiv n), .int b, .int k])) := set_l (j := 0) S _ e rfl
      repeat (first | walk_at "ev" | simp only [x0, hd, m1, m2', s1])
    · rw [List.getElem?_set_self hlt]
  · have S1e : (S.set p (.lst [.int a, .int b, .int (k + 1)]))[p]? = some (.lst [.int a, .int b, .int (k + 1)]) := List.getElem?_set_self hlt
    generalize hS1 : S.set p (.lst [.int a, .int b, .int (k + 1)]) = S1 at S1e
    have s1 : setD (.loc p) (.int 2) (.int (k + 1)) S = .ok () S1 := by rw [← hS1]; exact set_l (j := 2) S _ e rfl
    obtain ⟨q, hq, q0, q1⟩ := prime_at (fmod_r (k + 1) (n := 5) (by decide)).1 (fmod_r (k + 1) (n := 5) (by decide)).2
    have S2e : (S1 ++ [.lst primes])[p]? = some (.lst [.int a, .int b, .int (k + 1)]) := at_old S1e
    have S2n : (S1 ++ [.lst primes])[S1.length]? = some (.lst primes) := at_end _ _
    generalize hS2 : S1 ++ [.lst primes] = S2 at S2e S2n
    have y2 : ixD (.loc p) (.int 2) S2 = .ok (.int (k + 1)) S2 := ix_l S2 S2e rfl
    have y1 : ixD (.loc p) (.int 1) S2 = .ok (.int b) S2 := ix_l S2 S2e rfl
    have yq : ixD (.loc S1.length) (.int ((k + 1).fmod 5)) S2 = .ok (.int q) S2 := ix_l S2 S2n hq
    have kk0 : 0 ≤ (k + 1) * (k + 1) := Int.mul_nonneg (by omega) (by omega)
    have kk1 : (k + 1) * (k + 1) ≤ 1000001 * 1000001 := Int.mul_le_mul (by omega) (by omega) (by omega) (by omega)
    have ass : 99989 * (k + 1) * (k + 1) = 99989 * ((k + 1) * (k + 1)) := Int.mul_assoc _ _ _
    generalize hB : b + 99989 * (k + 1) * (k + 1) + 61 = B
    have B0 : -18446744073709551616 < B := by rw [← hB, ass]; omega
    have B1 : B < 18446744073709551616 := by rw [← hB, ass]; omega
    obtain ⟨m0, m1⟩ := fmod_r (B ^ 3) q0
    generalize hm : (B ^ 3).fmod q = m at m0 m1
    generalize hm2 : (m * (m.fmod 10009 + 91 * (k + 1))).fmod 2305843009213693907 = m2
    obtain ⟨v0, v1⟩ := fmod_r (m2.fdiv 107) h0
    refine ⟨_, S2, ?_, v0, v1, ⟨a, b, k + 1, S2e, ha, hb0, hb1, by omega, by omega⟩, ?_⟩
    · unfold F_l_take
      have hd := decide_eq_false h
      have z0 : modD (.int (k + 1)) (.int 5) S2 = .ok (.int ((k + 1).fmod 5)) S2 := mod_ii _ _ _ (modC_p (by decide))
      have z1 : mulB (.int 99989) (.int (k + 1)) S2 = .ok (.int (99989 * (k + 1))) S2 := mulB_ii _ _ _ (mulC_l (by decide) (by decide))
      have z2 : mulB (.int (99989 * (k + 1))) (.int (k + 1)) S2 = .ok (.int (99989 * (k + 1) * (k + 1))) S2 := mulB_ii _ _ _ (mulC_r (by omega) (by omega))
      have z3 : powD (.int B) (.int 3) S2 = .ok (.int (B ^ 3)) S2 := pow_ii _ _ _ (powC_3 B0 B1)
      have z4 : modD (.int (B ^ 3)) (.int q) S2 = .ok (.int m) S2 := by rw [← hm]; exact mod_ii _ _ _ (modC_p q0)
      have z5 : modD (.int m) (.int 10009) S2 = .ok (.int (m.fmod 10009)) S2 := mod_ii _ _ _ (modC_p (by decide))
      have z6 : mulB (.int 91) (.int (k + 1)) S2 = .ok (.int (91 * (k + 1))) S2 := mulB_ii _ _ _ (mulC_l (by decide) (by decide))
      have z7 : mulB (.int m) (.int (m.fmod 10009 + 91 * (k + 1))) S2 = .ok (.int (m * (m.fmod 10009 + 91 * (k + 1)))) S2 := mulB_ii _ _ _ (mulC_l (by omega) (by omega))
      have z8 : modD (.int (m * (m.fmod 10009 + 91 * (k + 1)))) (.int 2305843009213693907) S2 = .ok (.int m2) S2 := by rw [← hm2]; exact mod_ii _ _ _ (modC_p (by decide))
      have z9 : fdivD (.int m2) (.int 107) S2 = .ok (.int (m2.fdiv 107)) S2 := fdiv_ii _ _ _ (divC_p (by decide) (by decide))
      have za : modD (.int (m2.fdiv 107)) (.int n) S2 = .ok (.int ((m2.fdiv 107).fmod n)) S2 := mod_ii _ _ _ (modC_p h0)
      repeat (first | walk_at "ev" | simp only [x0, hd, x2, s1, hS2, y2, z0, yq, y1, z1, z2, hB, z3, z4, z5, z6, z7, z8, z9, za])
    · rw [← hS2, ← hS1]
      exact (Grw.set p S _).trans (Grw.app p _ _)
theorem atI_of {α : Type} {l : List α} {v : Int} (h0 : 0 ≤ v) (h1 : v < l.length) : ∃ d, atI l v = some d ∧ d ∈ l := by
  have hl : v.toNat < l.length := by omega
  refine ⟨l[v.toNat], ?_, List.getElem_mem hl⟩
  have := atI_nat (List.getElem?_eq_getElem hl)
  rwa [Int.toNat_of_nonneg h0] at this
/-! OF -/
/-! FO -/
theorem powC_a : powC 10 60 = true := by decide +kernel
theorem powC_c : powC 10 18 = true := by decide +kernel
theorem powC_b : powC (10 ^ (60 : Int).toNat) 5 = true := by decide +kernel
theorem P_pos : 0 < ((10 : Int) ^ (60 : Int).toNat) ^ (5 : Int).toNat := Int.pow_pos (Int.pow_pos (by decide))
theorem cell_ok (ns : List Int) (k : Nat) (S : Sto) : ∃ x : Int, mIf (tOf (m2 ltD (mVar 1) (mA lenD (mCons (mVar 0) mNil)))) (m2 ixD (mVar 0) (mVar 1)) (m2 addD (m2 mulB (mC (.int 43)) (mVar 1)) (mC (.int 19))) [some (.rls (ns.map D.int)), some (.int k), none, none] S = .ok (.int x) S := by
  by_cases h : (k : Int) < (ns.length : Int)
  · have hl : k < ns.length := by omega
    have hd := decide_eq_true h
    refine ⟨ns[k], ?_⟩
    have x1 : ixD (.rls (ns.map D.int)) (.int (k : Int)) S = .ok (.int ns[k]) S := ix_r S (atI_nat (by rw [List.getElem?_map, List.getElem?_eq_getElem hl]; rfl))
    repeat (first | walk_at "ev" | simp only [List.length_map, hd, x1])
  · have hd := decide_eq_false h
    refine ⟨43 * k + 19, ?_⟩
    have x1 : mulB (.int 43) (.int (k : Int)) S = .ok (.int (43 * k)) S := mulB_ii _ _ _ (mulC_l (by decide) (by decide))
    repeat (first | walk_at "ev" | simp only [List.length_map, hd, x1])
theorem pot_run {ns : List Int} {k : Nat} (hk : k < 3) {S : Sto} {x P T U : Int} (hx : mIf (tOf (m2 ltD (mVar 1) (mA lenD (mCons (mVar 0) mNil)))) (m2 ixD (mVar 0) (mVar 1)) (m2 addD (m2 mulB (mC (.int 43)) (mVar 1)) (mC (.int 19))) [some (.rls (ns.map D.int)), some (.int k), none, none] S = .ok (.int x) S)
    (P0 : 0 < P) (pw0 : powD (.int 10) (.int 60) S = .ok (.int T) S) (pw1 : powD (.int T) (.int 5) S = .ok (.int P) S) (pw2 : powD (.int 10) (.int 18) S = .ok (.int U) S) :
    ∃ a b : Int, F_l_pot [.rls (ns.map D.int), .int k] S = .ok (.loc S.length) (S ++ [.lst [.int a, .int b, .int 0]]) ∧ 0 ≤ a ∧ 0 ≤ b ∧ b < 2305843009213693921 := by
  have hA : 0 ≤ (if x < 0 then -x else x) := by
    split <;> omega
  generalize hy : (if x < 0 then -x else x) = y at hA
  have md : modD (.int y) (.int P) S = .ok (.int (y.fmod P)) S := mod_ii _ _ _ (modC_p P0)
  obtain ⟨f0, _⟩ := fmod_r y P0
  have bt : ∃ t : Int, (t = 0 ∨ t = 1) ∧ (if decide (U ≤ y) = true then (1 : Int) else 0) = t := by
    by_cases h : U ≤ y
    · exact ⟨1, .inr rfl, by rw [decide_eq_true h]; rfl⟩
    · exact ⟨0, .inl rfl, by rw [decide_eq_false h]; rfl⟩
  obtain ⟨t, ht, ht2⟩ := bt
  have ml : mulB (.int (y.fmod P)) (.int t) S = .ok (.int (y.fmod P * t)) S := mulB_ii _ _ _ (mulC_r (by omega) (by omega))
  have n1 : modD (.int x) (.int 2305843009213693951) S = .ok (.int (x.fmod 2305843009213693951)) S := mod_ii _ _ _ (modC_p (by omega))
  have n2 : mulB (.int (x.fmod 2305843009213693951)) (.int 70663) S = .ok (.int (x.fmod 2305843009213693951 * 70663)) S := mulB_ii _ _ _ (mulC_r (by omega) (by omega))
  have n3 : mulB (.int 6421) (.int (k : Int)) S = .ok (.int (6421 * k)) S := mulB_ii _ _ _ (mulC_l (by omega) (by omega))
  have n4 : mulB (.int (6421 * k)) (.int (k : Int)) S = .ok (.int (6421 * k * k)) S := mulB_ii _ _ _ (mulC_r (by omega) (by omega))
  generalize hz : x.fmod 2305843009213693951 * 70663 + 6421 * k * k + 83 = z
  have n5 : modD (.int z) (.int 2305843009213693921) S = .ok (.int (z.fmod 2305843009213693921)) S := mod_ii _ _ _ (modC_p (by omega))
  obtain ⟨g0, g1⟩ := fmod_r z (n := 2305843009213693921) (by omega)
  refine ⟨y.fmod P * t, z.fmod 2305843009213693921, ?_, ?_, g0, g1⟩
  · unfold F_l_pot
    rw [fnM_ap _ _ _ _ _ (by rfl)]
    rw [sSeq_ap, sAs_ap]
    rw [show ([D.rls (ns.map D.int), D.int k].map some ++ List.replicate (4 - 2) none) = [some (.rls (ns.map D.int)), some (.int k), none, none] from rfl, hx]
    repeat (first | walk_at "ev" | simp only [hy, pw0, pw1, pw2, md, ht2, ml, n1, n2, n3, n4, hz, n5])
  · rcases ht with rfl | rfl
    · rw [Int.mul_zero]; exact Int.le_refl 0
    · rw [Int.mul_one]; exact f0
theorem pot_ok (ns : List Int) (k : Nat) (hk : k < 3) (S : Sto) : ∃ a b : Int, F_l_pot [.rls (ns.map D.int), .int k] S = .ok (.loc S.length) (S ++ [.lst [.int a, .int b, .int 0]]) ∧ 0 ≤ a ∧ 0 ≤ b ∧ b < 2305843009213693921 := by
  obtain ⟨x, hx⟩ := cell_ok ns k S
  exact pot_run hk hx P_pos (pow_ii S 10 60 powC_a) (pow_ii S _ 5 powC_b) (pow_ii S 10 18 powC_c)
def il (x y z : Int) : MO := .lst [.int x, .int y, .int z]
theorem ltO_il {n : Nat} {x y z : Int} : ltO n (il x y z) = true := rfl
theorem take_t {S l : Sto} {n : Nat} (h : S.length = n) : (S ++ l).take n = S := by
  subst h
  simp
/-- what has come of a store by draws: the pot alone is otherwise, new things stand behind -/
theorem grw_form {p : Nat} {S T : Sto} {c : Nat} (hg : Grw p S T) (hp : p < S.length) (hP : Pot p T c) : ∃ x y z, T.take S.length = S.set p (il x y z) ∧ Pot p (S.set p (il x y z)) c := by
  obtain ⟨a, b, k, e, r⟩ := hP
  refine ⟨a, b, k, ?_, a, b, k, List.getElem?_set_self hp, r⟩
  apply List.ext_getElem?
  intro i
  by_cases hi : i < S.length
  · rw [List.getElem?_take_of_lt hi]
    by_cases hip : i = p
    · subst hip
      rw [List.getElem?_set_self hi]
      exact e
    · rw [List.getElem?_set_ne (Ne.symm hip)]
      exact hg.2 i hip hi
  · rw [List.getElem?_eq_none_iff.mpr (by rw [List.length_take]; omega), List.getElem?_eq_none_iff.mpr (by rw [List.length_set]; omega)]
theorem gq_grw {F : List D → M D} {ds : List D} {p : Nat} {S T : Sto} {c : Nat} {d : D} (h : F ds S = .ok d T) (hg : Grw p S T) (hp : p < S.length) (hP : Pot p T c) (hd : ltD' S.length d = true) : ∃ x y z, gq F ds S = .ok d (S.set p (il x y z)) ∧ Pot p (S.set p (il x y z)) c := by
  obtain ⟨x, y, z, e, h2⟩ := grw_form hg hp hP
  refine ⟨x, y, z, ?_, h2⟩
  unfold gq
  rw [h]
  simp only
  have ht : Trim S.length S T := fun i hi => by
    by_cases hip : i = p
    · subst hip
      obtain ⟨a, b, k, e', _⟩ := hP
      exact .inr ⟨_, e', rfl⟩
    · exact .inl (hg.2 i hip hi)
  rw [if_pos ⟨hd, ht⟩, e]
theorem gq_fresh {F : List D → M D} {ds : List D} {S S' : Sto} {d : D} (h : F ds S = .ok d S') (hd : ltD' S.length d = false) : gq F ds S = .ok d S' := by
  unfold gq
  rw [h]
  simp only
  rw [if_neg fun z => by rw [hd] at z; cases z.1]
theorem take_q {p : Nat} {S : Sto} {c : Nat} {n : Int} (hp : Pot p S c) (hc : c ≤ 1000000) (h0 : 0 < n) (h1 : n < 1073741824) :
    ∃ v x y z, gq F_l_take [.loc p, .int n] S = .ok (.int v) (S.set p (il x y z)) ∧ 0 ≤ v ∧ v < n ∧ Pot p (S.set p (il x y z)) (c + 1) := by
  obtain ⟨v, T, e, v0, v1, hP, hg⟩ := take_ok hp hc h0 h1
  obtain ⟨x, y, z, e2, h2⟩ := gq_grw e hg hp.lt hP rfl
  exact ⟨v, x, y, z, e2, v0, v1, h2⟩
theorem pot_q (ns : List Int) (k : Nat) (hk : k < 3) (S : Sto) : ∃ a b : Int, gq F_l_pot [.rls (ns.map D.int), .int k] S = .ok (.loc S.length) (S ++ [il a b 0]) ∧ Pot S.length (S ++ [il a b 0]) 0 := by
  obtain ⟨a, b, e, h0, h1, h2⟩ := pot_ok ns k hk S
  refine ⟨a, b, gq_fresh e (by simp [ltD']), ⟨a, b, 0, by simp [il], h0, h1, h2, by decide, by decide⟩⟩
/-! OF -/
theorem of_q {p q : Nat} {S : Sto} {c : Nat} {ds : List D} (hp : Pot p S c) (hc : c ≤ 1000000) (hq : S[q]? = some (.lst ds)) (hn : q ≠ p) (h0 : 0 < ds.length) (h1 : ds.length ≤ 1000) (hl : ∀ d ∈ ds, ltD' S.length d = true) :
    ∃ d x y z, gq F_l_of [.loc p, .loc q] S = .ok d (S.set p (il x y z)) ∧ d ∈ ds ∧ Pot p (S.set p (il x y z)) (c + 1) := by
  obtain ⟨v, x, y, z, e, v0, v1, hp'⟩ := take_q (n := ds.length) hp hc (by omega) (by omega)
  obtain ⟨d, hd, hm⟩ := atI_of v0 v1
  have hq' : (S.set p (il x y z))[q]? = some (.lst ds) := by
    rw [List.getElem?_set_ne (Ne.symm hn)]
    exact hq
  have hF : F_l_of [.loc p, .loc q] S = .ok d (S.set p (il x y z)) := by
    unfold F_l_of
    have l1 : lenD [.loc q] S = .ok (.int ds.length) S := len_l S hq
    have l2 : ixD (.loc q) (.int v) (S.set p (il x y z)) = .ok d (S.set p (il x y z)) := ix_l _ hq' hd
    repeat (first | walk_at "ev" | simp only [l1, e, l2])
  obtain ⟨x', y', z', e2, h2⟩ := gq_grw hF (Grw.set p S _) hp.lt hp' (hl d hm)
  exact ⟨d, x', y', z', e2, hm, h2⟩
/-! FO -/
theorem seq1 {A B : Fa.Env → Sto → Out} {r r1 : Fa.Env} {S S1 : Sto} {o : Out} (h1 : A r S = .nx r1 S1) (h2 : B r1 S1 = o) : sSeq A B r S = o := by
  rw [sSeq_ap, h1]
  exact h2
/-- a comprehension whose elements draw -/
theorem lc_inv {src : Src} (k : Nat) (it : Nat → D) {g : Tg} {t : Fa.Env → M Bool} {e : Fa.Env → M D} {r : Fa.Env} {n : Nat} (J : Nat → List D → Sto → Prop) (hn : ∀ i acc S, J i acc S → nextD src i S = some (if i < k then some (it i) else none))
    (h : ∀ i acc S, i < k → J i acc S → S[n]? = some (.lst acc) → ∃ r' S' y, g (it i) r S = .ok r' S ∧ t r' S = .ok true S ∧ e r' S = .ok y S' ∧ S'[n]? = some (.lst acc) ∧ J (i + 1) (acc ++ [y]) (S'.set n (.lst (acc ++ [y])))) (hz : k ≤ sizeLine)
    {S : Sto} (h0 : J 0 [] S) (hS : S[n]? = some (.lst [])) : ∃ ds S', lcGo src g t e n r k 0 S = .ok (.loc n) S' ∧ S'[n]? = some (.lst ds) ∧ ds.length = k ∧ J k ds S' := by
  have go : ∀ (j i : Nat) (acc : List D) (S : Sto), i + j = k → acc.length = i → J i acc S → S[n]? = some (.lst acc) → ∃ ds S', lcGo src g t e n r j i S = .ok (.loc n) S' ∧ S'[n]? = some (.lst ds) ∧ ds.length = k ∧ J k ds S' := by
    intro j
    induction j with
    | zero =>
      intro i acc S hi hl hJ hS
      have : i = k := by omega
      subst this
      refine ⟨acc, S, ?_, hS, hl, hJ⟩
      unfold lcGo
      rw [hn i acc S hJ, if_neg (Nat.lt_irrefl _)]
    | succ j ih =>
      intro i acc S hi hl hJ hS
      have hlt : i < k := by omega
      obtain ⟨r', S', y, h1, h2, h3, h4, h5⟩ := h i acc S hlt hJ hS
      unfold lcGo
      rw [hn i acc S hJ, if_pos hlt]
      simp only [h1, h2, h3]
      rw [push_at _ h4 (by omega)]
      refine ih (i + 1) (acc ++ [y]) _ (by omega) (by simp [hl]) h5 ?_
      rw [List.getElem?_set_self (List.getElem?_eq_some_iff.mp h4).1]
  exact go k 0 [] S (by omega) rfl h0 hS
theorem mLc_inv {m : Fa.Env → M Src} {src : Src} (k : Nat) (it : Nat → D) {g : Tg} {e : Fa.Env → M D} {vs : List Nat} {r : Fa.Env} {S S0 : Sto} (J : Nat → List D → Sto → Prop) (hm : m r S = .ok src S0) (ht : turns src S0 = k) (hn : ∀ i acc S, J i acc S → nextD src i S = some (if i < k then some (it i) else none))
    (h : ∀ i acc S, i < k → J i acc S → S[S0.length]? = some (.lst acc) → ∃ r' S' y, g (it i) (wipeE r vs) S = .ok r' S ∧ e r' S = .ok y S' ∧ S'[S0.length]? = some (.lst acc) ∧ J (i + 1) (acc ++ [y]) (S'.set S0.length (.lst (acc ++ [y])))) (hz : k ≤ sizeLine)
    (h0 : J 0 [] (S0 ++ [.lst []])) : ∃ ds S', mLc m g tT e vs r S = .ok (.loc S0.length) S' ∧ S'[S0.length]? = some (.lst ds) ∧ ds.length = k ∧ J k ds S' := by
  unfold mLc
  rw [bnd_ap, hm, bK_ok, ht]
  exact lc_inv k it J hn (fun i acc S hi hJ hS => by
    obtain ⟨r', S', y, h1, h2, h3, h4⟩ := h i acc S hi hJ hS
    exact ⟨r', S', y, h1, rfl, h2, h3, h4⟩) hz h0 (at_end _ _)
/-! LAW -/
theorem law_all {nv : Nat} {body : Fa.Env → Sto → Out} (J : Fa.Env → Prop) (hF : F_law = fnM (nv + 1) 1 (sSeq (sFor (mRng1 (mCons (mA maxD (mCons (mC (.int 1)) (mCons (mA minD (mCons (mC (.int 3)) (mCons (mA lenD (mCons (mVar 0) mNil)) mNil))) mNil))) mNil)) (gN 1) body) (sRet (mC (.bl true)))))
    (ns : List Int) (h0 : J (some (.rls (ns.map D.int)) :: List.replicate nv none)) (hb : ∀ (i : Nat) r S, i < 3 → J r → ∃ r' S', body (r.set 1 (some (.int (i : Int)))) S = .nx r' S' ∧ J r') :
    ∃ S, F_law [.rls (ns.map D.int)] [] = .ok (.bl true) S := by
  obtain ⟨k, hk, hk3⟩ : ∃ k : Nat, (if (if (ns.length : Int) < 3 then (ns.length : Int) else 3) > 1 then (if (ns.length : Int) < 3 then (ns.length : Int) else 3) else 1) = (k : Int) ∧ k ≤ 3 := by
    by_cases h1 : (ns.length : Int) < 3
    · rw [if_pos h1]
      by_cases h2 : (ns.length : Int) > 1
      · exact ⟨ns.length, if_pos h2, by omega⟩
      · exact ⟨1, if_neg h2, by omega⟩
    · rw [if_neg h1]
      exact ⟨3, rfl, by omega⟩
  have hr1 : rngOf1 [.int (k : Int)] [] = .ok (.rng 0 k) [] := rng1_i (by omega) (by omega) []
  have hv : mVar 0 (some (.rls (ns.map D.int)) :: List.replicate nv none) [] = .ok (.rls (ns.map D.int)) [] := rfl
  have hm : mRng1 (mCons (mA maxD (mCons (mC (.int 1)) (mCons (mA minD (mCons (mC (.int 3)) (mCons (mA lenD (mCons (mVar 0) mNil)) mNil))) mNil))) mNil) (some (.rls (ns.map D.int)) :: List.replicate nv none) [] = .ok (.rng 0 k) [] := by
    repeat (first | walk_at "ev" | simp only [hv, List.length_map, hk, hr1])
  obtain ⟨r', S', hf, hI⟩ := sFor_inv k (fun i => .int (0 + (i : Int))) (g := gN 1) (b := body) (fun i r S => J r) hm rfl (fun i r T _ => next_rng _ _ _ _) (fun i r T hi hI => by
      obtain ⟨r2, T2, e, hJ⟩ := hb i r T (by omega) hI
      refine ⟨_, T, r2, T2, rfl, .inl ?_, hJ⟩
      rw [Int.zero_add]
      exact e) h0
  refine ⟨S', ?_⟩
  rw [hF, fnM_ap _ _ _ _ _ (by rfl)]
  refine (congrArg fK (?_ : _ = Out.rt (.bl true) S')).trans rfl
  exact seq1 hf rfl
/-! WAL -/
end Lw
namespace Lw
open PySem PySem.Spec PyProof.Rows L2 Fa
local macro_rules | `(tactic| walk_at "ev") => `(tactic| simp only [bK_ok, bK_err, bK_bad, bnd_ap, ret_ap, fail_ap, mVar_ap, vK_some, mC_ap, m1_ap, m2_ap, k2_ap, mNil_ap, mCons_ap, kCons_ap, kCon_ap, mA_ap, mIf_ap, kIf_t, kIf_f, tOf_ap, isBl_ap, tNt_ap, kNt_ap, tAn_ap, kAn_t, kAn_f, tOr_ap, kOr_t, kOr_f, mNot_ap, kNot_ap, mAnd_ap, kAnd_t, kAnd_f, mOr_ap, kOrV_t, kOrV_f,
  sSeq_ap, sK_nx, sK_rt, sK_bk, sK_ct, sK_ex, sK_bad, oK_ok, oK_err, oK_bad, kNx_ap, kRt_ap, sEx_ap, sRet_ap, sRetN_ap, sNx_ap, sBad_ap, sIf_ap, kIfS_t, kIfS_f, gN_ap, gT_ap, gT_tt, gTc_ap, gT0_ap, sAs_ap, kAs_ap, kAs2_ok, sPar_ap, kPar_ap, gSubD_ap, kSub1_ap, kSub2_ap, kSub3_ap, fK_nx, fK_rt, fK_ex, mLM_ap, mRng1_ap, mRng2_ap, mSrc_ap, src_t, src_r, src_s, src_k,
  mChain_ap, kCh1_ap, kCh2_ap, kCh3_t, kCh3_f, mSl_ap, kSl1_ap, kSl2_ap, mSlT_ap, kTl1_ap, kTl2_ap, mP0_ap, mP_ap, intO_ap, sl_t, dfl_ap, mTM_ap, kTM_k, kTM_t, mMeth_ap, kMe1_ap, kMe2_ap, kMe3_ap, gFld_ap, kF1_ap, gSubA_ap, kSA1_ap, kSA2_ap, sPar3_ap, kPar3_ap, mkD_ap, mkR_ok, dct0D_ap, mDisp_ap, mPairs_nil, mPairs_cons, kPr1_ap, kPr2_ap, kPr3_ap, tuple_t, list_t, mZip_ap, zip_tt,
  wipeE, nc0, nc1, nc2, nc3, nc4, nc5, nc6, nc7, nc8, nc9, nc10, nc11, nc12, nc13, nc14, nc15, Int.reduceEq, Int.reduceLE, Int.reduceLT, Int.reduceSub, Int.reduceAdd,
  fnM_ap, tupD_ap, lstD_ap, le_line, Nat.reduceLeDiff, eq_self,
  add_ii, sub_ii, neg_i, lt_ii, le_ii, gt_ii, ge_ii, isN_n, isN_i, isN_t, isN_s, isN_b, isN_l, abs_i, max_ii, min_ii, int_i, int_b, len_t, len_r, eq_ii, eq_bb, eq_ss,
  List.map_cons, List.map_nil, List.cons_append, List.nil_append, List.append_nil, List.replicate_succ, List.replicate_zero, List.length_cons, List.length_nil, Nat.reduceSub, Nat.reduceAdd, Nat.sub_self, Nat.zero_add,
  List.getElem?_cons_succ, List.getElem?_cons_zero, List.set_cons_succ, List.set_cons_zero, Bool.not_true, Bool.not_false, decide_true, decide_false, if_true, if_false, reduceIte, Bool.false_eq_true])
local macro_rules | `(tactic| walk_at "ex") => `(tactic| simp only [bK_ok, bK_err, bK_bad, bnd_ap, ret_ap, fail_ap, mVar_ap, vK_some, mC_ap, m1_ap, m2_ap, k2_ap, mNil_ap, mCons_ap, kCons_ap, kCon_ap, mA_ap, mIf_ap, kIf_t, kIf_f, tOf_ap, isBl_ap, tNt_ap, kNt_ap, kAn_t, kAn_f, tOr_ap, kOr_t, kOr_f, mNot_ap, kNot_ap, mAnd_ap, kAnd_t, kAnd_f, mOr_ap, kOrV_t, kOrV_f,
  sSeq_ap, sK_nx, sK_rt, sK_bk, sK_ct, sK_ex, sK_bad, oK_ok, oK_err, oK_bad, kNx_ap, kRt_ap, sEx_ap, sRet_ap, sRetN_ap, sNx_ap, sBad_ap, sIf_ap, kIfS_t, kIfS_f, gN_ap, gT_ap, gT_tt, gTc_ap, gT0_ap, sAs_ap, kAs_ap, kAs2_ok, sPar_ap, kPar_ap, gSubD_ap, kSub1_ap, kSub2_ap, kSub3_ap, fK_nx, fK_rt, fK_ex, mLM_ap, mRng1_ap, mRng2_ap, mSrc_ap, src_t, src_r, src_s, src_k,
  mChain_ap, kCh1_ap, kCh2_ap, kCh3_t, kCh3_f, mSl_ap, kSl1_ap, kSl2_ap, mSlT_ap, kTl1_ap, kTl2_ap, mP0_ap, mP_ap, intO_ap, sl_t, dfl_ap, mTM_ap, kTM_k, kTM_t, mMeth_ap, kMe1_ap, kMe2_ap, kMe3_ap, gFld_ap, kF1_ap, gSubA_ap, kSA1_ap, kSA2_ap, sPar3_ap, kPar3_ap, mkD_ap, mkR_ok, dct0D_ap, mDisp_ap, mPairs_nil, mPairs_cons, kPr1_ap, kPr2_ap, kPr3_ap, tuple_t, list_t, mZip_ap, zip_tt,
  wipeE, nc0, nc1, nc2, nc3, nc4, nc5, nc6, nc7, nc8, nc9, nc10, nc11, nc12, nc13, nc14, nc15, Int.reduceEq, Int.reduceLE, Int.reduceLT, Int.reduceSub, Int.reduceAdd,
  fnM_ap, tupD_ap, lstD_ap, le_line, Nat.reduceLeDiff, eq_self,
  add_ii, sub_ii, neg_i, lt_ii, le_ii, gt_ii, ge_ii, isN_n, isN_i, isN_t, isN_s, isN_b, isN_l, abs_i, max_ii, min_ii, int_i, int_b, len_t, len_r, eq_ii, eq_bb, eq_ss,
  List.map_cons, List.map_nil, List.cons_append, List.nil_append, List.append_nil, List.replicate_succ, List.replicate_zero, List.length_cons, List.length_nil, Nat.reduceSub, Nat.reduceAdd, Nat.sub_self, Nat.zero_add,
  List.getElem?_cons_succ, List.getElem?_cons_zero, List.set_cons_succ, List.set_cons_zero, Bool.not_true, Bool.not_false, decide_true, decide_false, if_true, if_false, reduceIte, Bool.false_eq_true])
/-! ### k90: looks -/
theorem tw_all {p : Nat → Bool} : ∀ l : List Nat, l.all p = true → l.takeWhile p = l
  | [], _ => rfl
  | c :: l, h => by
    rw [List.all_cons, Bool.and_eq_true] at h
    rw [List.takeWhile_cons, if_pos h.1, tw_all l h.2]
theorem tw_not {p : Nat → Bool} : ∀ l : List Nat, l.all p = false → ∃ c r, l.drop (l.takeWhile p).length = c :: r ∧ p c = false
  | [], h => by cases h
  | c :: l, h => by
    cases e : p c with
    | true =>
      rw [List.all_cons, e, Bool.true_and] at h
      rw [List.takeWhile_cons, if_pos e]
      exact tw_not l h
    | false =>
      rw [List.takeWhile_cons, if_neg (by rw [e]; exact Bool.false_ne_true)]
      exact ⟨c, l, rfl, e⟩
theorem tw_lt {p : Nat → Bool} {c : Nat} (hc : p c = false) : ∀ l : List Nat, ((l ++ [c]).takeWhile p).length ≤ l.length
  | [] => by
    rw [List.nil_append, List.takeWhile_cons, if_neg (by rw [hc]; exact Bool.false_ne_true)]
    exact Nat.le_refl _
  | d :: l => by
    rw [List.cons_append, List.takeWhile_cons]
    cases e : p d with
    | true => rw [if_pos rfl]; exact Nat.succ_le_succ (tw_lt hc l)
    | false => rw [if_neg Bool.false_ne_true]; exact Nat.zero_le _
theorem strip_e (z y : Str) : decide (Txt.stripChars z y = PySem.Str.ofString "") = z.cps.toList.all y.cps.contains := by
  unfold Txt.stripChars
  rw [PyProof.Rows.stripBy_eq]
  cases h : z.cps.toList.all y.cps.contains with
  | true =>
    have lo : stripLo y.cps.contains true z = z.cps.size := by
      unfold stripLo
      rw [if_pos rfl, tw_all _ h]
      exact Array.length_toList
    refine decide_eq_true ?_
    rw [lo]
    have hi : stripHi y.cps.contains true z z.cps.size = z.cps.size := by
      unfold stripHi
      rw [if_pos rfl, List.drop_of_length_le (by rw [Array.length_toList]; exact Nat.le_refl _)]
      rfl
    rw [hi]
    unfold Builtin.Str.strSub
    simp
    rfl
  | false =>
    refine decide_eq_false fun e => ?_
    obtain ⟨c, r, hd, hc⟩ := tw_not _ h
    have lo : stripLo y.cps.contains true z = (z.cps.toList.takeWhile y.cps.contains).length := by
      unfold stripLo
      rw [if_pos rfl]
    generalize hn : (z.cps.toList.takeWhile y.cps.contains).length = n at lo hd
    have hlt : n < z.cps.size := by
      have := congrArg List.length hd
      rw [List.length_drop, Array.length_toList, List.length_cons] at this
      omega
    have hhi : n < stripHi y.cps.contains true z n := by
      unfold stripHi
      rw [if_pos rfl, hd, List.reverse_cons]
      have := tw_lt hc r.reverse
      rw [List.length_reverse] at this
      have h2 := congrArg List.length hd
      rw [List.length_drop, Array.length_toList, List.length_cons] at h2
      show n < z.cps.size - _
      omega
    rw [lo] at e
    have hle : stripHi y.cps.contains true z n ≤ z.cps.size := by
      unfold stripHi
      rw [if_pos rfl]
      exact Nat.sub_le _ _
    have := congrArg (fun x : Str => x.cps.size) e
    unfold Builtin.Str.strSub at this
    simp at this
    have e0 : (PySem.Str.ofString "").cps.size = 0 := rfl
    omega
end Lw
namespace Lw
open PySem PySem.Spec PyProof.Rows L2 Fa
local macro_rules | `(tactic| walk_at "ev") => `(tactic| simp only [bK_ok, bK_err, bK_bad, bnd_ap, ret_ap, fail_ap, mVar_ap, vK_some, mC_ap, m1_ap, m2_ap, k2_ap, mNil_ap, mCons_ap, kCons_ap, kCon_ap, mA_ap, mIf_ap, kIf_t, kIf_f, tOf_ap, isBl_ap, tNt_ap, kNt_ap, tAn_ap, kAn_t, kAn_f, tOr_ap, kOr_t, kOr_f, mNot_ap, kNot_ap, mAnd_ap, kAnd_t, kAnd_f, mOr_ap, kOrV_t, kOrV_f,
  sSeq_ap, sK_nx, sK_rt, sK_bk, sK_ct, sK_ex, sK_bad, oK_ok, oK_err, oK_bad, kNx_ap, kRt_ap, sEx_ap, sRet_ap, sRetN_ap, sNx_ap, sBad_ap, sIf_ap, kIfS_t, kIfS_f, gN_ap, gT_ap, gT_tt, gTc_ap, gT0_ap, sAs_ap, kAs_ap, kAs2_ok, sPar_ap, kPar_ap, gSubD_ap, kSub1_ap, kSub2_ap, kSub3_ap, fK_nx, fK_rt, fK_ex, mLM_ap, mRng1_ap, mRng2_ap, mSrc_ap, src_t, src_r, src_s, src_k,
  mChain_ap, kCh1_ap, kCh2_ap, kCh3_t, kCh3_f, mSl_ap, kSl1_ap, kSl2_ap, mSlT_ap, kTl1_ap, kTl2_ap, mP0_ap, mP_ap, intO_ap, sl_t, dfl_ap, mTM_ap, kTM_k, kTM_t, mMeth_ap, kMe1_ap, kMe2_ap, kMe3_ap, gFld_ap, kF1_ap, gSubA_ap, kSA1_ap, kSA2_ap, sPar3_ap, kPar3_ap, mkD_ap, mkR_ok, dct0D_ap, mDisp_ap, mPairs_nil, mPairs_cons, kPr1_ap, kPr2_ap, kPr3_ap, tuple_t, list_t, mZip_ap, zip_tt,
  wipeE, nc0, nc1, nc2, nc3, nc4, nc5, nc6, nc7, nc8, nc9, nc10, nc11, nc12, nc13, nc14, nc15, Int.reduceEq, Int.reduceLE, Int.reduceLT, Int.reduceSub, Int.reduceAdd,
  fnM_ap, tupD_ap, lstD_ap, le_line, Nat.reduceLeDiff, eq_self,
  add_ii, sub_ii, neg_i, lt_ii, le_ii, gt_ii, ge_ii, isN_n, isN_i, isN_t, isN_s, isN_b, isN_l, abs_i, max_ii, min_ii, int_i, int_b, len_t, len_r, eq_ii, eq_bb, eq_ss,
  List.map_cons, List.map_nil, List.cons_append, List.nil_append, List.append_nil, List.replicate_succ, List.replicate_zero, List.length_cons, List.length_nil, Nat.reduceSub, Nat.reduceAdd, Nat.sub_self, Nat.zero_add,
  List.getElem?_cons_succ, List.getElem?_cons_zero, List.set_cons_succ, List.set_cons_zero, Bool.not_true, Bool.not_false, decide_true, decide_false, if_true, if_false, reduceIte, Bool.false_eq_true])
local macro_rules | `(tactic| walk_at "ex") => `(tactic| simp only [bK_ok, bK_err, bK_bad, bnd_ap, ret_ap, fail_ap, mVar_ap, vK_some, mC_ap, m1_ap, m2_ap, k2_ap, mNil_ap, mCons_ap, kCons_ap, kCon_ap, mA_ap, mIf_ap, kIf_t, kIf_f, tOf_ap, isBl_ap, tNt_ap, kNt_ap, kAn_t, kAn_f, tOr_ap, kOr_t, kOr_f, mNot_ap, kNot_ap, mAnd_ap, kAnd_t, kAnd_f, mOr_ap, kOrV_t, kOrV_f,
  sSeq_ap, sK_nx, sK_rt, sK_bk, sK_ct, sK_ex, sK_bad, oK_ok, oK_err, oK_bad, kNx_ap, kRt_ap, sEx_ap, sRet_ap, sRetN_ap, sNx_ap, sBad_ap, sIf_ap, kIfS_t, kIfS_f, gN_ap, gT_ap, gT_tt, gTc_ap, gT0_ap, sAs_ap, kAs_ap, kAs2_ok, sPar_ap, kPar_ap, gSubD_ap, kSub1_ap, kSub2_ap, kSub3_ap, fK_nx, fK_rt, fK_ex, mLM_ap, mRng1_ap, mRng2_ap, mSrc_ap, src_t, src_r, src_s, src_k,
  mChain_ap, kCh1_ap, kCh2_ap, kCh3_t, kCh3_f, mSl_ap, kSl1_ap, kSl2_ap, mSlT_ap, kTl1_ap, kTl2_ap, mP0_ap, mP_ap, intO_ap, sl_t, dfl_ap, mTM_ap, kTM_k, kTM_t, mMeth_ap, kMe1_ap, kMe2_ap, kMe3_ap, gFld_ap, kF1_ap, gSubA_ap, kSA1_ap, kSA2_ap, sPar3_ap, kPar3_ap, mkD_ap, mkR_ok, dct0D_ap, mDisp_ap, mPairs_nil, mPairs_cons, kPr1_ap, kPr2_ap, kPr3_ap, tuple_t, list_t, mZip_ap, zip_tt,
  wipeE, nc0, nc1, nc2, nc3, nc4, nc5, nc6, nc7, nc8, nc9, nc10, nc11, nc12, nc13, nc14, nc15, Int.reduceEq, Int.reduceLE, Int.reduceLT, Int.reduceSub, Int.reduceAdd,
  fnM_ap, tupD_ap, lstD_ap, le_line, Nat.reduceLeDiff, eq_self,
  add_ii, sub_ii, neg_i, lt_ii, le_ii, gt_ii, ge_ii, isN_n, isN_i, isN_t, isN_s, isN_b, isN_l, abs_i, max_ii, min_ii, int_i, int_b, len_t, len_r, eq_ii, eq_bb, eq_ss,
  List.map_cons, List.map_nil, List.cons_append, List.nil_append, List.append_nil, List.replicate_succ, List.replicate_zero, List.length_cons, List.length_nil, Nat.reduceSub, Nat.reduceAdd, Nat.sub_self, Nat.zero_add,
  List.getElem?_cons_succ, List.getElem?_cons_zero, List.set_cons_succ, List.set_cons_zero, Bool.not_true, Bool.not_false, decide_true, decide_false, if_true, if_false, reduceIte, Bool.false_eq_true])
abbrev tx (x : String) : Str := PySem.Str.ofString x
def letC : List Nat := (tx "abcdefghijklmnopqrstuvwxyz").cps.toList
def nameS (z : Str) : Bool := decide (1 ≤ z.length) && decide (z.length ≤ 8) && z.cps.toList.all fun c => decide (c ∈ letC)
def nameP : D → Bool
  | .str z => nameS z
  | _ => false
def letP : D → Bool
  | .str y => match sign1 y with
    | some c => decide (c ∈ letC)
    | none => false
  | _ => false
theorem is_name_q {S : Sto} {v : D} (h : okD S v = true) : gq F_is_name [v] S = .ok (.bl (nameP v)) S := by
  have h1 := isi_str h
  cases v with
  | str z =>
    have hz : z.length ≤ 1000 := by simpa [okD] using h
    have hl := len_s S z (le_line hz)
    simp only [isStr] at h1
    cases e1 : decide ((1 : Int) ≤ z.length) with
    | false =>
      refine gq_new0 ?_ rfl
      unfold F_is_name
      have : decide (1 ≤ z.length) = false := by simp only [decide_eq_false_iff_not] at e1 ⊢; omega
      repeat (first | walk_at "ev" | simp only [h1, hl, e1, nameP, nameS, this, Bool.false_and])
    | true =>
      have t1 : decide (1 ≤ z.length) = true := by simp only [decide_eq_true_eq] at e1 ⊢; omega
      cases e2 : decide ((z.length : Int) ≤ 8) with
      | false =>
        refine gq_new0 ?_ rfl
        unfold F_is_name
        have : decide (z.length ≤ 8) = false := by simp only [decide_eq_false_iff_not] at e2 ⊢; omega
        repeat (first | walk_at "ev" | simp only [h1, hl, e1, e2, t1, nameP, nameS, this, Bool.true_and, Bool.false_and])
      | true =>
        have t2 : decide (z.length ≤ 8) = true := by simp only [decide_eq_true_eq] at e2 ⊢; omega
        refine gq_new (l := [.lst ((z.cps.toList.map fun c => D.str ⟨#[c]⟩).map fun d => .bl (letP d))]) ?_ rfl
        unfold F_is_name
        repeat (first | walk_at "ev" | simp only [h1, hl, e1, e2])
        rw [mLc_map (S0 := S) (src := .txt z) (z.cps.toList.map fun c => D.str ⟨#[c]⟩) (fun d => .bl (letP d)) rfl (by simp [turns]) (fun l i => nextD_txt z i _) (fun d hd l => by
          obtain ⟨c, _, rfl⟩ := List.mem_map.mp hd
          refine ⟨_, rfl, ?_⟩
          repeat (first | walk_at "ev" | simp only [in_sign])
          rfl) (by rw [List.length_map]; exact le_line (by simpa [Str.length] using hz))]
        repeat (first | walk_at "ev" | rw [all_at letP _ (at_end _ _)])
        have : nameP (.str z) = (z.cps.toList.map fun c => D.str ⟨#[c]⟩).all letP := by
          rw [List.all_map]
          simp only [nameP, nameS, t1, t2, Bool.true_and]
          rfl
        rw [this]
  | _ =>
    simp only [isStr] at h1
    refine gq_new0 ?_ rfl
    unfold F_is_name
    repeat (first | walk_at "ev" | simp only [h1, nameP])
theorem contains_let (c : Nat) : (PySem.Str.ofString "abcdefghijklmnopqrstuvwxyz").cps.contains c = decide (c ∈ letC) := by
  show (tx "abcdefghijklmnopqrstuvwxyz").cps.contains c = decide (c ∈ (tx "abcdefghijklmnopqrstuvwxyz").cps.toList)
  rw [← Array.contains_toList]
  exact List.contains_eq_mem c _
theorem l_is_name_q {S : Sto} {v : D} (h : okD S v = true) : gq F_l_is_name [v] S = .ok (.bl (nameP v)) S := by
  have h1 := isi_str h
  refine gq_new0 ?_ rfl
  unfold F_l_is_name
  cases v with
  | str z =>
    have hz : z.length ≤ 1000 := by simpa [okD] using h
    have hl := len_s S z (le_line hz)
    simp only [isStr] at h1
    have hs : stripD (.str z) [.str (PySem.Str.ofString "abcdefghijklmnopqrstuvwxyz")] S = .ok (.str (Txt.stripChars z (PySem.Str.ofString "abcdefghijklmnopqrstuvwxyz"))) S := by
      unfold stripD
      exact if_pos (le_line hz)
    have hm : mSM stripD (mVar 0) (mC (.str (PySem.Str.ofString "abcdefghijklmnopqrstuvwxyz"))) [some (.str z)] S = .ok (.str (Txt.stripChars z (PySem.Str.ofString "abcdefghijklmnopqrstuvwxyz"))) S := hs
    have he : decide (Txt.stripChars z (PySem.Str.ofString "abcdefghijklmnopqrstuvwxyz") = PySem.Str.ofString "") = z.cps.toList.all fun c => decide (c ∈ letC) := by
      rw [strip_e]
      congr 1
      funext c
      exact contains_let c
    cases e1 : decide ((1 : Int) ≤ z.length) with
    | false =>
      have : decide (1 ≤ z.length) = false := by simp only [decide_eq_false_iff_not] at e1 ⊢; omega
      repeat (first | walk_at "ev" | simp only [h1, hl, e1, nameP, nameS, this, Bool.false_and])
    | true =>
      have t1 : decide (1 ≤ z.length) = true := by simp only [decide_eq_true_eq] at e1 ⊢; omega
      cases e2 : decide ((z.length : Int) ≤ 8) with
      | false =>
        have : decide (z.length ≤ 8) = false := by simp only [decide_eq_false_iff_not] at e2 ⊢; omega
        repeat (first | walk_at "ev" | simp only [h1, hl, e1, e2, t1, nameP, nameS, this, Bool.true_and, Bool.false_and])
      | true =>
        have t2 : decide (z.length ≤ 8) = true := by simp only [decide_eq_true_eq] at e2 ⊢; omega
        have : nameP (.str z) = z.cps.toList.all fun c => decide (c ∈ letC) := by
          simp only [nameP, nameS, t1, t2, Bool.true_and]
        rw [this, ← he]
        repeat (first | simp only [hm] | walk_at "ev" | simp only [h1, hl, e1, e2])
  | int i => repeat (first | walk_at "ev" | simp only [h1, isStr, nameP])
  | bl b => repeat (first | walk_at "ev" | simp only [h1, isStr, nameP])
  | non => repeat (first | walk_at "ev" | simp only [h1, isStr, nameP])
  | tup x => repeat (first | walk_at "ev" | simp only [h1, isStr, nameP])
  | loc x => repeat (first | walk_at "ev" | simp only [h1, isStr, nameP])
  | _ => simp [okD] at h
end Lw
namespace Lw
open PySem PySem.Spec PyProof.Rows L2 Fa
local macro_rules | `(tactic| walk_at "ev") => `(tactic| simp only [bK_ok, bK_err, bK_bad, bnd_ap, ret_ap, fail_ap, mVar_ap, vK_some, mC_ap, m1_ap, m2_ap, k2_ap, mNil_ap, mCons_ap, kCons_ap, kCon_ap, mA_ap, mIf_ap, kIf_t, kIf_f, tOf_ap, isBl_ap, tNt_ap, kNt_ap, tAn_ap, kAn_t, kAn_f, tOr_ap, kOr_t, kOr_f, mNot_ap, kNot_ap, mAnd_ap, kAnd_t, kAnd_f, mOr_ap, kOrV_t, kOrV_f,
  sSeq_ap, sK_nx, sK_rt, sK_bk, sK_ct, sK_ex, sK_bad, oK_ok, oK_err, oK_bad, kNx_ap, kRt_ap, sEx_ap, sRet_ap, sRetN_ap, sNx_ap, sBad_ap, sIf_ap, kIfS_t, kIfS_f, gN_ap, gT_ap, gT_tt, gTc_ap, gT0_ap, sAs_ap, kAs_ap, kAs2_ok, sPar_ap, kPar_ap, gSubD_ap, kSub1_ap, kSub2_ap, kSub3_ap, fK_nx, fK_rt, fK_ex, mLM_ap, mRng1_ap, mRng2_ap, mSrc_ap, src_t, src_r, src_s, src_k,
  mChain_ap, kCh1_ap, kCh2_ap, kCh3_t, kCh3_f, mSl_ap, kSl1_ap, kSl2_ap, mSlT_ap, kTl1_ap, kTl2_ap, mP0_ap, mP_ap, intO_ap, sl_t, dfl_ap, mTM_ap, kTM_k, kTM_t, mMeth_ap, kMe1_ap, kMe2_ap, kMe3_ap, gFld_ap, kF1_ap, gSubA_ap, kSA1_ap, kSA2_ap, sPar3_ap, kPar3_ap, mkD_ap, mkR_ok, dct0D_ap, mDisp_ap, mPairs_nil, mPairs_cons, kPr1_ap, kPr2_ap, kPr3_ap, tuple_t, list_t, mZip_ap, zip_tt,
  wipeE, nc0, nc1, nc2, nc3, nc4, nc5, nc6, nc7, nc8, nc9, nc10, nc11, nc12, nc13, nc14, nc15, Int.reduceEq, Int.reduceLE, Int.reduceLT, Int.reduceSub, Int.reduceAdd,
  fnM_ap, tupD_ap, lstD_ap, le_line, Nat.reduceLeDiff, eq_self,
  add_ii, sub_ii, neg_i, lt_ii, le_ii, gt_ii, ge_ii, isN_n, isN_i, isN_t, isN_s, isN_b, isN_l, abs_i, max_ii, min_ii, int_i, int_b, len_t, len_r, eq_ii, eq_bb, eq_ss,
  List.map_cons, List.map_nil, List.cons_append, List.nil_append, List.append_nil, List.replicate_succ, List.replicate_zero, List.length_cons, List.length_nil, Nat.reduceSub, Nat.reduceAdd, Nat.sub_self, Nat.zero_add,
  List.getElem?_cons_succ, List.getElem?_cons_zero, List.set_cons_succ, List.set_cons_zero, Bool.not_true, Bool.not_false, decide_true, decide_false, if_true, if_false, reduceIte, Bool.false_eq_true])
local macro_rules | `(tactic| walk_at "ex") => `(tactic| simp only [bK_ok, bK_err, bK_bad, bnd_ap, ret_ap, fail_ap, mVar_ap, vK_some, mC_ap, m1_ap, m2_ap, k2_ap, mNil_ap, mCons_ap, kCons_ap, kCon_ap, mA_ap, mIf_ap, kIf_t, kIf_f, tOf_ap, isBl_ap, tNt_ap, kNt_ap, kAn_t, kAn_f, tOr_ap, kOr_t, kOr_f, mNot_ap, kNot_ap, mAnd_ap, kAnd_t, kAnd_f, mOr_ap, kOrV_t, kOrV_f,
  sSeq_ap, sK_nx, sK_rt, sK_bk, sK_ct, sK_ex, sK_bad, oK_ok, oK_err, oK_bad, kNx_ap, kRt_ap, sEx_ap, sRet_ap, sRetN_ap, sNx_ap, sBad_ap, sIf_ap, kIfS_t, kIfS_f, gN_ap, gT_ap, gT_tt, gTc_ap, gT0_ap, sAs_ap, kAs_ap, kAs2_ok, sPar_ap, kPar_ap, gSubD_ap, kSub1_ap, kSub2_ap, kSub3_ap, fK_nx, fK_rt, fK_ex, mLM_ap, mRng1_ap, mRng2_ap, mSrc_ap, src_t, src_r, src_s, src_k,
  mChain_ap, kCh1_ap, kCh2_ap, kCh3_t, kCh3_f, mSl_ap, kSl1_ap, kSl2_ap, mSlT_ap, kTl1_ap, kTl2_ap, mP0_ap, mP_ap, intO_ap, sl_t, dfl_ap, mTM_ap, kTM_k, kTM_t, mMeth_ap, kMe1_ap, kMe2_ap, kMe3_ap, gFld_ap, kF1_ap, gSubA_ap, kSA1_ap, kSA2_ap, sPar3_ap, kPar3_ap, mkD_ap, mkR_ok, dct0D_ap, mDisp_ap, mPairs_nil, mPairs_cons, kPr1_ap, kPr2_ap, kPr3_ap, tuple_t, list_t, mZip_ap, zip_tt,
  wipeE, nc0, nc1, nc2, nc3, nc4, nc5, nc6, nc7, nc8, nc9, nc10, nc11, nc12, nc13, nc14, nc15, Int.reduceEq, Int.reduceLE, Int.reduceLT, Int.reduceSub, Int.reduceAdd,
  fnM_ap, tupD_ap, lstD_ap, le_line, Nat.reduceLeDiff, eq_self,
  add_ii, sub_ii, neg_i, lt_ii, le_ii, gt_ii, ge_ii, isN_n, isN_i, isN_t, isN_s, isN_b, isN_l, abs_i, max_ii, min_ii, int_i, int_b, len_t, len_r, eq_ii, eq_bb, eq_ss,
  List.map_cons, List.map_nil, List.cons_append, List.nil_append, List.append_nil, List.replicate_succ, List.replicate_zero, List.length_cons, List.length_nil, Nat.reduceSub, Nat.reduceAdd, Nat.sub_self, Nat.zero_add,
  List.getElem?_cons_succ, List.getElem?_cons_zero, List.set_cons_succ, List.set_cons_zero, Bool.not_true, Bool.not_false, decide_true, decide_false, if_true, if_false, reduceIte, Bool.false_eq_true])
/-! ### k90: counts, stamps, sendings, deeds -/
def cntP : D → Bool
  | .int i => decide (0 ≤ i)
  | _ => false
def dueP : D → Bool
  | .tup [.int a, .int b] => decide (0 ≤ a) && decide (0 ≤ b)
  | _ => false
def intP : D → Bool
  | .int _ => true
  | _ => false
theorem int_of {d : D} (h : intP d = true) : ∃ i, d = .int i := by
  cases d with
  | int i => exact ⟨i, rfl⟩
  | _ => cases h
theorem due_l {a b : D} (h : intP a = false) : dueP (.tup [a, b]) = false := by
  cases a with
  | int i => cases h
  | _ => rfl
theorem due_r {i : Int} {b : D} (h : intP b = false) : dueP (.tup [.int i, b]) = false := by
  cases b with
  | int i => cases h
  | _ => rfl
theorem due_len {ds : List D} (h : ds.length ≠ 2) : dueP (.tup ds) = false := by
  match ds, h with
  | [], _ => rfl
  | [a], _ => cases a <;> rfl
  | [a, b], h => exact absurd rfl h
  | a :: b :: c :: ds, _ => cases a <;> first | rfl | (cases b <;> rfl)
theorem is_count_stamps_q {S : Sto} {d : D} (h : okD S d = true) : gq F_is_count_stamps [d] S = .ok (.bl (cntP d)) S := by
  refine gq_new0 ?_ rfl
  unfold F_is_count_stamps
  have h1 := isi_int h
  have h2 := isi_bool h
  cases d with
  | int i => (repeat (first | walk_at "ev" | simp only [h1, h2, isNum, isBoo, cntP, ge_iff_le]))
  | bl b => (repeat (first | walk_at "ev" | simp only [h1, h2, isNum, isBoo, cntP]))
  | non => (repeat (first | walk_at "ev" | simp only [h1, h2, isNum, isBoo, cntP]))
  | str x => (repeat (first | walk_at "ev" | simp only [h1, h2, isNum, isBoo, cntP]))
  | tup x => (repeat (first | walk_at "ev" | simp only [h1, h2, isNum, isBoo, cntP]))
  | loc x => (repeat (first | walk_at "ev" | simp only [h1, h2, isNum, isBoo, cntP]))
  | _ => simp [okD] at h
theorem is_count_texts_q {S : Sto} {d : D} (h : okD S d = true) : gq F_is_count_texts [d] S = .ok (.bl (cntP d)) S := by
  refine gq_new0 ?_ rfl
  unfold F_is_count_texts
  have h1 := isi_int h
  have h2 := isi_bool h
  cases d with
  | int i => (repeat (first | walk_at "ev" | simp only [h1, h2, isNum, isBoo, cntP, ge_iff_le]))
  | bl b => (repeat (first | walk_at "ev" | simp only [h1, h2, isNum, isBoo, cntP]))
  | non => (repeat (first | walk_at "ev" | simp only [h1, h2, isNum, isBoo, cntP]))
  | str x => (repeat (first | walk_at "ev" | simp only [h1, h2, isNum, isBoo, cntP]))
  | tup x => (repeat (first | walk_at "ev" | simp only [h1, h2, isNum, isBoo, cntP]))
  | loc x => (repeat (first | walk_at "ev" | simp only [h1, h2, isNum, isBoo, cntP]))
  | _ => simp [okD] at h
theorem l_is_int_q {S : Sto} {d : D} (h : okD S d = true) : gq F_l_is_int [d] S = .ok (.bl (cntP d)) S := by
  refine gq_new0 ?_ rfl
  unfold F_l_is_int
  have h1 := isi_int h
  have h2 := isi_bool h
  cases d with
  | int i => (repeat (first | walk_at "ev" | simp only [h1, h2, isNum, isBoo, cntP, ge_iff_le]))
  | bl b => (repeat (first | walk_at "ev" | simp only [h1, h2, isNum, isBoo, cntP]))
  | non => (repeat (first | walk_at "ev" | simp only [h1, h2, isNum, isBoo, cntP]))
  | str x => (repeat (first | walk_at "ev" | simp only [h1, h2, isNum, isBoo, cntP]))
  | tup x => (repeat (first | walk_at "ev" | simp only [h1, h2, isNum, isBoo, cntP]))
  | loc x => (repeat (first | walk_at "ev" | simp only [h1, h2, isNum, isBoo, cntP]))
  | _ => simp [okD] at h
theorem pair_q {E : List D → M D} (hE : ∀ {S : Sto} {d : D}, okD S d = true → gq E [d] S = .ok (.bl (cntP d)) S) {S : Sto} {d : D} (h : okD S d = true) : gq (fnM 2 1 (sRet (mAnd (mA isiD (mCons (mVar 0) (mCons (mC (.ty "tuple")) mNil))) (mAnd (m2 (eqB false) (mA lenD (mCons (mVar 0) mNil)) (mC (.int 2))) (mA allD (mCons (mLc (mSrc (mVar 0)) (gN 1) tT (mA (gq E) (mCons (mVar 1) mNil)) [1]) mNil)))))) [d] S = .ok (.bl (dueP d)) S := by
  have h1 := isi_tup h
  cases d with
  | tup ds =>
    obtain ⟨hl, hd⟩ := okD_tup h
    by_cases h2 : ds.length = 2
    · match ds, h2, hd with
      | [a, b], _, hd =>
        have l : lenD [.tup [a, b]] S = .ok (.int 2) S := rfl
        have e2 : eqB false (.int 2) (.int 2) S = .ok (.bl true) S := rfl
        have ha := mLc_all (m := mSrc (mVar 0)) (src := .items [a, b]) [a, b] cntP (g := gN 1) (e := mA (gq E) (mCons (mVar 1) mNil)) (vs := [1]) (r := [some (.tup [a, b]), none]) (S := S) (S0 := S) (by repeat (first | walk_at "ev" | simp only [])) rfl (fun l i => next_of_items _ _ _)
          (fun d hd' l => ⟨[some (.tup [a, b]), some d], rfl, by
            have q := hE (okD_app (l := l) (hd d hd'))
            repeat (first | walk_at "ev" | simp only [q])⟩) (le_line (by simp))
        have e : ([a, b].all cntP) = dueP (.tup [a, b]) := by
          cases ea : intP a with
          | false =>
            rw [due_l ea]
            cases a with
            | int i => cases ea
            | _ => rfl
          | true =>
            obtain ⟨i, rfl⟩ := int_of ea
            cases eb : intP b with
            | false =>
              rw [due_r eb]
              cases b with
              | int i => cases eb
              | _ => simp [cntP]
            | true =>
              obtain ⟨j, rfl⟩ := int_of eb
              simp [cntP, dueP]
        rw [e] at ha
        refine gq_new (l := [.lst ([a, b].map fun d => .bl (cntP d))]) ?_ rfl
        rw [fnM_ap _ _ _ _ _ (by rfl)]
        refine (congrArg fK (?_ : sRet _ [some (.tup [a, b]), none] S = Out.rt (.bl (dueP (.tup [a, b]))) _)).trans rfl
        rw [sRet_ap, mAnd_ap]
        have c1 : mA isiD (mCons (mVar 0) (mCons (mC (.ty "tuple")) mNil)) [some (.tup [a, b]), none] S = .ok (.bl true) S := by
          repeat (first | walk_at "ev" | simp only [h1, isTup])
        have c2 : m2 (eqB false) (mA lenD (mCons (mVar 0) mNil)) (mC (.int 2)) [some (.tup [a, b]), none] S = .ok (.bl true) S := by
          repeat (first | walk_at "ev" | simp only [l, e2])
        rw [c1, bK_ok, kAnd_t, mAnd_ap, c2, bK_ok, kAnd_t, ha]
        rfl
    · rw [due_len h2]
      refine gq_new0 ?_ rfl
      have e2 : eqB false (.int (ds.length : Int)) (.int 2) S = .ok (.bl false) S := by
        show Res.ok (D.bl (decide ((ds.length : Int) = 2))) S = _
        rw [decide_eq_false (by omega)]
      have e4 : decide ((ds.length : Int) = 2) = false := decide_eq_false (by omega)
      repeat (first | simp only [e2] | walk_at "ev" | simp only [h1, isTup, e4])
  | int i =>
    refine gq_new0 ?_ rfl
    (repeat (first | walk_at "ev" | simp only [h1, isTup, dueP]))
  | bl b =>
    refine gq_new0 ?_ rfl
    (repeat (first | walk_at "ev" | simp only [h1, isTup, dueP]))
  | non =>
    refine gq_new0 ?_ rfl
    (repeat (first | walk_at "ev" | simp only [h1, isTup, dueP]))
  | str x =>
    refine gq_new0 ?_ rfl
    (repeat (first | walk_at "ev" | simp only [h1, isTup, dueP]))
  | loc x =>
    refine gq_new0 ?_ rfl
    (repeat (first | walk_at "ev" | simp only [h1, isTup, dueP]))
  | _ => simp [okD] at h
theorem is_stamp_q {S : Sto} {d : D} (h : okD S d = true) : gq F_is_stamp [d] S = .ok (.bl (dueP d)) S := pair_q is_count_stamps_q h
theorem l_is_moment_q {S : Sto} {d : D} (h : okD S d = true) : gq F_l_is_moment [d] S = .ok (.bl (dueP d)) S := pair_q l_is_int_q h
def sendP : D → Bool
  | .tup [a, b, t, w] => dueP t && [a, b, w].all cntP
  | _ => false
theorem send_len {ds : List D} (h : ds.length ≠ 4) : sendP (.tup ds) = false := by
  match ds, h with
  | [], _ | [_], _ | [_, _], _ | [_, _, _], _ => rfl
  | [_, _, _, _], h => exact absurd rfl h
  | _ :: _ :: _ :: _ :: _ :: _, _ => rfl
theorem four_of {ds : List D} (h : ds.length = 4) : ∃ a b c d, ds = [a, b, c, d] := by
  match ds, h with
  | [a, b, c, d], _ => exact ⟨a, b, c, d, rfl⟩
theorem six_of {ds : List D} (h : ds.length = 6) : ∃ a b c d e f, ds = [a, b, c, d, e, f] := by
  match ds, h with
  | [a, b, c, d, e, f], _ => exact ⟨a, b, c, d, e, f, rfl⟩
theorem is_send_q {S : Sto} {d : D} (h : okD S d = true) : gq F_is_send [d] S = .ok (.bl (sendP d)) S := by
  have h1 := isi_tup h
  cases d with
  | tup ds =>
    obtain ⟨hl, hd⟩ := okD_tup h
    by_cases h4 : ds.length = 4
    · obtain ⟨a, b, t, w, rfl⟩ := four_of h4
      have q := is_stamp_q (hd t (by simp))
      have hab : ∀ x ∈ [a, b, w], okD S x = true := fun x hx => by
        simp only [List.mem_cons, List.not_mem_nil, or_false] at hx
        rcases hx with rfl | rfl | rfl <;> exact hd _ (by simp)
      have ha := mLc_all (m := mSrc (mA tupD (mCons (mVar 1) (mCons (mVar 2) (mCons (mVar 4) mNil))))) (src := .items [a, b, w]) [a, b, w] cntP (g := gN 5) (e := mA (gq F_is_count_texts) (mCons (mVar 5) mNil)) (vs := [5]) (r := [some (.tup [a, b, t, w]), some a, some b, some t, some w, none]) (S := S) (S0 := S) (by repeat (first | walk_at "ev" | simp only [])) rfl (fun l i => next_of_items _ _ _)
        (fun x hx l => ⟨[some (.tup [a, b, t, w]), some a, some b, some t, some w, some x], rfl, by
          have q := is_count_texts_q (okD_app (l := l) (hab x hx))
          repeat (first | walk_at "ev" | simp only [q])⟩) (le_line (by simp))
      have l : lenD [.tup [a, b, t, w]] S = .ok (.int 4) S := rfl
      have e2 : eqB true (.int 4) (.int 4) S = .ok (.bl false) S := rfl
      have s1 : sIf (Fa.tOr (tNt (tOf (mA isiD (mCons (mVar 0) (mCons (mC (.ty "tuple")) mNil))))) (tOf (m2 (eqB true) (mA lenD (mCons (mVar 0) mNil)) (mC (.int 4))))) (sRet (mC (.bl false))) sNx [some (.tup [a, b, t, w]), none, none, none, none, none] S = .nx [some (.tup [a, b, t, w]), none, none, none, none, none] S := by
        repeat (first | walk_at "ev" | simp only [h1, isTup, l, e2])
      have s2 : sAs (mVar 0) (gT (gTc (gN 1) (gTc (gN 2) (gTc (gN 3) (gTc (gN 4) gT0))))) [some (.tup [a, b, t, w]), none, none, none, none, none] S = .nx [some (.tup [a, b, t, w]), some a, some b, some t, some w, none] S := by
        repeat (first | walk_at "ev" | simp only [])
      have p : mA (gq F_is_stamp) (mCons (mVar 3) mNil) [some (.tup [a, b, t, w]), some a, some b, some t, some w, none] S = .ok (.bl (dueP t)) S := by
        repeat (first | walk_at "ev" | simp only [q])
      have e : sendP (.tup [a, b, t, w]) = (dueP t && [a, b, w].all cntP) := rfl
      rw [e]
      cases et : dueP t with
      | false =>
        rw [et] at p
        refine gq_new0 ?_ rfl
        unfold F_is_send
        rw [fnM_ap _ _ _ _ _ (by rfl)]
        refine (congrArg fK (seq1 s1 (seq1 s2 (o := .rt (.bl false) S) ?_))).trans rfl
        rw [sRet_ap, mAnd_ap, p]
        rfl
      | true =>
        rw [et] at p
        refine gq_new (l := [.lst ([a, b, w].map fun d => .bl (cntP d))]) ?_ rfl
        unfold F_is_send
        rw [fnM_ap _ _ _ _ _ (by rfl)]
        refine (congrArg fK (seq1 s1 (seq1 s2 (o := .rt (.bl (true && [a, b, w].all cntP)) (S ++ [.lst ([a, b, w].map fun d => .bl (cntP d))])) ?_))).trans rfl
        rw [sRet_ap, mAnd_ap, p, bK_ok, kAnd_t, ha]
        rfl
    · rw [send_len h4]
      refine gq_new0 ?_ rfl
      unfold F_is_send
      have e4 : decide ((ds.length : Int) = 4) = false := decide_eq_false (by omega)
      repeat (first | walk_at "ev" | simp only [h1, isTup, e4, Bool.not_false])
  | int i => exact gq_new0 (by unfold F_is_send; repeat (first | walk_at "ev" | simp only [h1, isTup, sendP])) rfl
  | bl i => exact gq_new0 (by unfold F_is_send; repeat (first | walk_at "ev" | simp only [h1, isTup, sendP])) rfl
  | non => exact gq_new0 (by unfold F_is_send; repeat (first | walk_at "ev" | simp only [h1, isTup, sendP])) rfl
  | str i => exact gq_new0 (by unfold F_is_send; repeat (first | walk_at "ev" | simp only [h1, isTup, sendP])) rfl
  | loc i => exact gq_new0 (by unfold F_is_send; repeat (first | walk_at "ev" | simp only [h1, isTup, sendP])) rfl
  | _ => simp [okD] at h
end Lw
namespace Lw
open PySem PySem.Spec PyProof.Rows L2 Fa
local macro_rules | `(tactic| walk_at "ev") => `(tactic| simp only [bK_ok, bK_err, bK_bad, bnd_ap, ret_ap, fail_ap, mVar_ap, vK_some, mC_ap, m1_ap, m2_ap, k2_ap, mNil_ap, mCons_ap, kCons_ap, kCon_ap, mA_ap, mIf_ap, kIf_t, kIf_f, tOf_ap, isBl_ap, tNt_ap, kNt_ap, tAn_ap, kAn_t, kAn_f, tOr_ap, kOr_t, kOr_f, mNot_ap, kNot_ap, mAnd_ap, kAnd_t, kAnd_f, mOr_ap, kOrV_t, kOrV_f,
  sSeq_ap, sK_nx, sK_rt, sK_bk, sK_ct, sK_ex, sK_bad, oK_ok, oK_err, oK_bad, kNx_ap, kRt_ap, sEx_ap, sRet_ap, sRetN_ap, sNx_ap, sBad_ap, sIf_ap, kIfS_t, kIfS_f, gN_ap, gT_ap, gT_tt, gTc_ap, gT0_ap, sAs_ap, kAs_ap, kAs2_ok, sPar_ap, kPar_ap, gSubD_ap, kSub1_ap, kSub2_ap, kSub3_ap, fK_nx, fK_rt, fK_ex, mLM_ap, mRng1_ap, mRng2_ap, mSrc_ap, src_t, src_r, src_s, src_k,
  mChain_ap, kCh1_ap, kCh2_ap, kCh3_t, kCh3_f, mSl_ap, kSl1_ap, kSl2_ap, mSlT_ap, kTl1_ap, kTl2_ap, mP0_ap, mP_ap, intO_ap, sl_t, dfl_ap, mTM_ap, kTM_k, kTM_t, mMeth_ap, kMe1_ap, kMe2_ap, kMe3_ap, gFld_ap, kF1_ap, gSubA_ap, kSA1_ap, kSA2_ap, sPar3_ap, kPar3_ap, mkD_ap, mkR_ok, dct0D_ap, mDisp_ap, mPairs_nil, mPairs_cons, kPr1_ap, kPr2_ap, kPr3_ap, tuple_t, list_t, mZip_ap, zip_tt,
  wipeE, nc0, nc1, nc2, nc3, nc4, nc5, nc6, nc7, nc8, nc9, nc10, nc11, nc12, nc13, nc14, nc15, Int.reduceEq, Int.reduceLE, Int.reduceLT, Int.reduceSub, Int.reduceAdd,
  fnM_ap, tupD_ap, lstD_ap, le_line, Nat.reduceLeDiff, eq_self,
  add_ii, sub_ii, neg_i, lt_ii, le_ii, gt_ii, ge_ii, isN_n, isN_i, isN_t, isN_s, isN_b, isN_l, abs_i, max_ii, min_ii, int_i, int_b, len_t, len_r, eq_ii, eq_bb, eq_ss,
  List.map_cons, List.map_nil, List.cons_append, List.nil_append, List.append_nil, List.replicate_succ, List.replicate_zero, List.length_cons, List.length_nil, Nat.reduceSub, Nat.reduceAdd, Nat.sub_self, Nat.zero_add,
  List.getElem?_cons_succ, List.getElem?_cons_zero, List.set_cons_succ, List.set_cons_zero, Bool.not_true, Bool.not_false, decide_true, decide_false, if_true, if_false, reduceIte, Bool.false_eq_true])
local macro_rules | `(tactic| walk_at "ex") => `(tactic| simp only [bK_ok, bK_err, bK_bad, bnd_ap, ret_ap, fail_ap, mVar_ap, vK_some, mC_ap, m1_ap, m2_ap, k2_ap, mNil_ap, mCons_ap, kCons_ap, kCon_ap, mA_ap, mIf_ap, kIf_t, kIf_f, tOf_ap, isBl_ap, tNt_ap, kNt_ap, kAn_t, kAn_f, tOr_ap, kOr_t, kOr_f, mNot_ap, kNot_ap, mAnd_ap, kAnd_t, kAnd_f, mOr_ap, kOrV_t, kOrV_f,
  sSeq_ap, sK_nx, sK_rt, sK_bk, sK_ct, sK_ex, sK_bad, oK_ok, oK_err, oK_bad, kNx_ap, kRt_ap, sEx_ap, sRet_ap, sRetN_ap, sNx_ap, sBad_ap, sIf_ap, kIfS_t, kIfS_f, gN_ap, gT_ap, gT_tt, gTc_ap, gT0_ap, sAs_ap, kAs_ap, kAs2_ok, sPar_ap, kPar_ap, gSubD_ap, kSub1_ap, kSub2_ap, kSub3_ap, fK_nx, fK_rt, fK_ex, mLM_ap, mRng1_ap, mRng2_ap, mSrc_ap, src_t, src_r, src_s, src_k,
  mChain_ap, kCh1_ap, kCh2_ap, kCh3_t, kCh3_f, mSl_ap, kSl1_ap, kSl2_ap, mSlT_ap, kTl1_ap, kTl2_ap, mP0_ap, mP_ap, intO_ap, sl_t, dfl_ap, mTM_ap, kTM_k, kTM_t, mMeth_ap, kMe1_ap, kMe2_ap, kMe3_ap, gFld_ap, kF1_ap, gSubA_ap, kSA1_ap, kSA2_ap, sPar3_ap, kPar3_ap, mkD_ap, mkR_ok, dct0D_ap, mDisp_ap, mPairs_nil, mPairs_cons, kPr1_ap, kPr2_ap, kPr3_ap, tuple_t, list_t, mZip_ap, zip_tt,
  wipeE, nc0, nc1, nc2, nc3, nc4, nc5, nc6, nc7, nc8, nc9, nc10, nc11, nc12, nc13, nc14, nc15, Int.reduceEq, Int.reduceLE, Int.reduceLT, Int.reduceSub, Int.reduceAdd,
  fnM_ap, tupD_ap, lstD_ap, le_line, Nat.reduceLeDiff, eq_self,
  add_ii, sub_ii, neg_i, lt_ii, le_ii, gt_ii, ge_ii, isN_n, isN_i, isN_t, isN_s, isN_b, isN_l, abs_i, max_ii, min_ii, int_i, int_b, len_t, len_r, eq_ii, eq_bb, eq_ss,
  List.map_cons, List.map_nil, List.cons_append, List.nil_append, List.append_nil, List.replicate_succ, List.replicate_zero, List.length_cons, List.length_nil, Nat.reduceSub, Nat.reduceAdd, Nat.sub_self, Nat.zero_add,
  List.getElem?_cons_succ, List.getElem?_cons_zero, List.set_cons_succ, List.set_cons_zero, Bool.not_true, Bool.not_false, decide_true, decide_false, if_true, if_false, reduceIte, Bool.false_eq_true])
/-! ### k90: letters and deeds -/
def at013 (a b w : D) : D → Bool
  | .int 0 => cntP a
  | .int 1 => cntP b
  | .int 3 => cntP w
  | _ => false
theorem l_is_letter_q {S : Sto} {d : D} (h : okD S d = true) : gq F_l_is_letter [d] S = .ok (.bl (sendP d)) S := by
  have h1 := isi_tup h
  cases d with
  | tup ds =>
    obtain ⟨hl, hd⟩ := okD_tup h
    by_cases h4 : ds.length = 4
    · obtain ⟨a, b, t, w, rfl⟩ := four_of h4
      have q := l_is_moment_q (hd t (by simp))
      have ha := mLc_all (m := mSrc (mA tupD (mCons (mC (.int 0)) (mCons (mC (.int 1)) (mCons (mC (.int 3)) mNil))))) (src := .items [.int 0, .int 1, .int 3]) [.int 0, .int 1, .int 3] (at013 a b w) (g := gN 1) (e := mA (gq F_l_is_int) (mCons (m2 ixD (mVar 0) (mVar 1)) mNil)) (vs := [1]) (r := [some (.tup [a, b, t, w]), none]) (S := S) (S0 := S) (by repeat (first | walk_at "ev" | simp only [])) rfl (fun l i => next_of_items _ _ _)
        (fun x hx l => ⟨[some (.tup [a, b, t, w]), some x], rfl, by
          simp only [List.mem_cons, List.not_mem_nil, or_false] at hx
          rcases hx with rfl | rfl | rfl
          · have i0 : ixD (.tup [a, b, t, w]) (.int 0) (S ++ l) = .ok a (S ++ l) := ix_t _ rfl
            have q := l_is_int_q (okD_app (l := l) (hd a (by simp)))
            repeat (first | walk_at "ev" | simp only [i0, q, at013])
          · have i0 : ixD (.tup [a, b, t, w]) (.int 1) (S ++ l) = .ok b (S ++ l) := ix_t _ rfl
            have q := l_is_int_q (okD_app (l := l) (hd b (by simp)))
            repeat (first | walk_at "ev" | simp only [i0, q, at013])
          · have i0 : ixD (.tup [a, b, t, w]) (.int 3) (S ++ l) = .ok w (S ++ l) := ix_t _ rfl
            have q := l_is_int_q (okD_app (l := l) (hd w (by simp)))
            repeat (first | walk_at "ev" | simp only [i0, q, at013])⟩) (le_line (by simp))
      have l : lenD [.tup [a, b, t, w]] S = .ok (.int 4) S := rfl
      have e2 : eqB true (.int 4) (.int 4) S = .ok (.bl false) S := rfl
      have i2 : ixD (.tup [a, b, t, w]) (.int 2) S = .ok t S := ix_t _ rfl
      have e : sendP (.tup [a, b, t, w]) = (dueP t && [a, b, w].all cntP) := rfl
      rw [e]
      cases et : dueP t with
      | false =>
        rw [et] at q
        refine gq_new0 ?_ rfl
        unfold F_l_is_letter
        repeat (first | walk_at "ev" | simp only [h1, isTup, l, e2, i2, q, Bool.false_and])
      | true =>
        rw [et] at q
        have s1 : sIf (Fa.tOr (tNt (tOf (mA isiD (mCons (mVar 0) (mCons (mC (.ty "tuple")) mNil))))) (Fa.tOr (tOf (m2 (eqB true) (mA lenD (mCons (mVar 0) mNil)) (mC (.int 4)))) (tNt (tOf (mA (gq F_l_is_moment) (mCons (m2 ixD (mVar 0) (mC (.int 2))) mNil)))))) (sRet (mC (.bl false))) sNx [some (.tup [a, b, t, w]), none] S = .nx [some (.tup [a, b, t, w]), none] S := by
          repeat (first | walk_at "ev" | simp only [h1, isTup, l, e2, i2, q])
        refine gq_new (l := [.lst ([.int 0, .int 1, .int 3].map fun d => .bl (at013 a b w d))]) ?_ rfl
        unfold F_l_is_letter
        rw [fnM_ap _ _ _ _ _ (by rfl)]
        refine (congrArg fK (seq1 s1 (o := .rt (.bl (true && [a, b, w].all cntP)) (S ++ [.lst ([.int 0, .int 1, .int 3].map fun d => .bl (at013 a b w d))])) ?_)).trans rfl
        rw [sRet_ap, ha]
        rfl
    · rw [send_len h4]
      refine gq_new0 ?_ rfl
      unfold F_l_is_letter
      have e4 : decide ((ds.length : Int) = 4) = false := decide_eq_false (by omega)
      repeat (first | walk_at "ev" | simp only [h1, isTup, e4, Bool.not_false])
  | int i => exact gq_new0 (by unfold F_l_is_letter; repeat (first | walk_at "ev" | simp only [h1, isTup, sendP])) rfl
  | bl i => exact gq_new0 (by unfold F_l_is_letter; repeat (first | walk_at "ev" | simp only [h1, isTup, sendP])) rfl
  | non => exact gq_new0 (by unfold F_l_is_letter; repeat (first | walk_at "ev" | simp only [h1, isTup, sendP])) rfl
  | str i => exact gq_new0 (by unfold F_l_is_letter; repeat (first | walk_at "ev" | simp only [h1, isTup, sendP])) rfl
  | loc i => exact gq_new0 (by unfold F_l_is_letter; repeat (first | walk_at "ev" | simp only [h1, isTup, sendP])) rfl
  | _ => simp [okD] at h
def allT (p : D → Bool) : D → Bool
  | .tup ds => ds.all p
  | _ => false
def deedP : D → Bool
  | .tup [t, n, m, w, a, b] => dueP t && (nameP n && (nameP m && (cntP w && (allT sendP a && allT cntP b))))
  | _ => false
theorem deed_len {ds : List D} (h : ds.length ≠ 6) : deedP (.tup ds) = false := by
  match ds, h with
  | [], _ | [_], _ | [_, _], _ | [_, _, _], _ | [_, _, _, _], _ | [_, _, _, _, _], _ => rfl
  | [_, _, _, _, _, _], h => exact absurd rfl h
  | _ :: _ :: _ :: _ :: _ :: _ :: _ :: _, _ => rfl
theorem isTup_of {d : D} (h : isTup d = true) : ∃ ds, d = .tup ds := by
  cases d with
  | tup ds => exact ⟨ds, rfl⟩
  | _ => cases h
theorem allT_not {p : D → Bool} {d : D} (h : isTup d = false) : allT p d = false := by
  cases d with
  | tup ds => cases h
  | _ => rfl
/-- all([look(x) for x in place]), where the place holds a tuple -/
theorem alls {E : List D → M D} {p : D → Bool} (hE : ∀ {S : Sto} {d : D}, okD S d = true → gq E [d] S = .ok (.bl (p d)) S) {m : Fa.Env → M D} {j : Nat} {r : Fa.Env} {S : Sto} {ds : List D} (hm : m r S = .ok (.tup ds) S) (hw : (wipeE r [j]).length = r.length) (hj : j < r.length) (hd : ∀ d ∈ ds, okD S d = true) (hl : ds.length ≤ 1000) :
    mA allD (mCons (mLc (mSrc m) (gN j) tT (mA (gq E) (mCons (mVar j) mNil)) [j]) mNil) r S = .ok (.bl (ds.all p)) (S ++ [.lst (ds.map fun d => .bl (p d))]) := by
  refine mLc_all (src := .items ds) ds p (by rw [mSrc_ap, hm]; rfl) rfl (fun l i => next_of_items _ _ _) (fun d hd' l => ⟨(wipeE r [j]).set j (some d), rfl, ?_⟩) (le_line hl)
  have q := hE (okD_app (l := l) (hd d hd'))
  have v : mVar j ((wipeE r [j]).set j (some d)) (S ++ l) = .ok d (S ++ l) := by
    rw [mVar_ap, List.getElem?_set_self (by rw [hw]; exact hj)]
    rfl
  rw [mA_ap, mCons_ap, v, bK_ok, kCons_ap, mNil_ap, bK_ok, kCon_ap, bK_ok, q]
theorem is_deed_q {S : Sto} {d : D} (h : okD S d = true) : gq F_is_deed [d] S = .ok (.bl (deedP d)) S := by
  have h1 := isi_tup h
  cases d with
  | tup ds =>
    obtain ⟨hl, hd⟩ := okD_tup h
    by_cases h6 : ds.length = 6
    · obtain ⟨t, n, m, w, a, b, rfl⟩ := six_of h6
      have q1 := is_stamp_q (hd t (by simp))
      have q2 := is_name_q (hd n (by simp))
      have q3 := is_name_q (hd m (by simp))
      have q4 := is_count_texts_q (hd w (by simp))
      have q5 := isi_tup (hd a (by simp))
      have q6 := isi_tup (hd b (by simp))
      have l : lenD [.tup [t, n, m, w, a, b]] S = .ok (.int 6) S := rfl
      have e2 : eqB true (.int 6) (.int 6) S = .ok (.bl false) S := rfl
      have e : deedP (.tup [t, n, m, w, a, b]) = (dueP t && (nameP n && (nameP m && (cntP w && (allT sendP a && allT cntP b))))) := rfl
      have s1 : sIf (Fa.tOr (tNt (tOf (mA isiD (mCons (mVar 0) (mCons (mC (.ty "tuple")) mNil))))) (tOf (m2 (eqB true) (mA lenD (mCons (mVar 0) mNil)) (mC (.int 6))))) (sRet (mC (.bl false))) sNx [some (.tup [t, n, m, w, a, b]), none, none, none, none, none, none, none] S = .nx [some (.tup [t, n, m, w, a, b]), none, none, none, none, none, none, none] S := by
        repeat (first | walk_at "ev" | simp only [h1, isTup, l, e2])
      have s2 : sAs (mVar 0) (gT (gTc (gN 1) (gTc (gN 2) (gTc (gN 3) (gTc (gN 4) (gTc (gN 5) (gTc (gN 6) gT0))))))) [some (.tup [t, n, m, w, a, b]), none, none, none, none, none, none, none] S = .nx [some (.tup [t, n, m, w, a, b]), some t, some n, some m, some w, some a, some b, none] S := by
        repeat (first | walk_at "ev" | simp only [])
      generalize hr : (Option.some (D.tup [t, n, m, w, a, b])) = x0 at s1 s2
      have s3 : sIf (Fa.tOr (tNt (tOf (mA (gq F_is_stamp) (mCons (mVar 1) mNil)))) (Fa.tOr (tNt (tOf (mA (gq F_is_name) (mCons (mVar 2) mNil)))) (Fa.tOr (tNt (tOf (mA (gq F_is_name) (mCons (mVar 3) mNil)))) (tNt (tOf (mA (gq F_is_count_texts) (mCons (mVar 4) mNil))))))) (sRet (mC (.bl false))) sNx [x0, some t, some n, some m, some w, some a, some b, none] S = if (dueP t && (nameP n && (nameP m && cntP w))) = true then .nx [x0, some t, some n, some m, some w, some a, some b, none] S else .rt (.bl false) S := by
        cases e1 : dueP t <;> cases e2 : nameP n <;> cases e3 : nameP m <;> cases e4 : cntP w <;> rw [e1] at q1 <;> rw [e2] at q2 <;> rw [e3] at q3 <;> rw [e4] at q4 <;> repeat (first | walk_at "ev" | simp only [q1, q2, q3, q4, Bool.and_true, Bool.and_false, Bool.true_and, Bool.false_and])
      have s4 : sIf (Fa.tOr (tNt (tOf (mA isiD (mCons (mVar 5) (mCons (mC (.ty "tuple")) mNil))))) (tNt (tOf (mA isiD (mCons (mVar 6) (mCons (mC (.ty "tuple")) mNil)))))) (sRet (mC (.bl false))) sNx [x0, some t, some n, some m, some w, some a, some b, none] S = if (isTup a && isTup b) = true then .nx [x0, some t, some n, some m, some w, some a, some b, none] S else .rt (.bl false) S := by
        cases e1 : isTup a <;> cases e2 : isTup b <;> rw [e1] at q5 <;> rw [e2] at q6 <;> repeat (first | walk_at "ev" | simp only [q5, q6, Bool.and_true, Bool.and_false, Bool.true_and, Bool.false_and])
      by_cases c1 : (dueP t && (nameP n && (nameP m && cntP w))) = true
      · rw [if_pos c1] at s3
        by_cases c2 : (isTup a && isTup b) = true
        · rw [if_pos c2] at s4
          rw [Bool.and_eq_true] at c2
          obtain ⟨as, rfl⟩ := isTup_of c2.1
          obtain ⟨bs, rfl⟩ := isTup_of c2.2
          obtain ⟨la, oa⟩ := okD_tup (hd (.tup as) (by simp))
          obtain ⟨lb, ob⟩ := okD_tup (hd (.tup bs) (by simp))
          have a1 := alls is_send_q (m := mVar 5) (j := 7) (r := [x0, some t, some n, some m, some w, some (.tup as), some (.tup bs), none]) (S := S) rfl rfl (by simp) oa la
          have a2 := alls is_count_texts_q (m := mVar 6) (j := 7) (r := [x0, some t, some n, some m, some w, some (.tup as), some (.tup bs), none]) (S := S ++ [.lst (as.map fun d => .bl (sendP d))]) rfl rfl (by simp) (fun d hd => okD_app (ob d hd)) lb
          have ev : deedP (.tup [t, n, m, w, .tup as, .tup bs]) = (as.all sendP && bs.all cntP) := by
            simp only [Bool.and_eq_true] at c1
            simp only [deedP, allT, c1.1, c1.2.1, c1.2.2.1, c1.2.2.2, Bool.true_and]
          rw [ev]
          cases f1 : as.all sendP with
          | false =>
            rw [f1] at a1
            refine gq_new (l := [.lst (as.map fun d => .bl (sendP d))]) ?_ rfl
            unfold F_is_deed
            rw [fnM_ap _ _ _ _ _ (by rfl)]
            subst hr
            refine (congrArg fK (seq1 s1 (seq1 s2 (seq1 s3 (seq1 s4 (o := .rt (.bl false) (S ++ [.lst (as.map fun d => .bl (sendP d))])) ?_))))).trans rfl
            rw [sRet_ap, mAnd_ap, a1]
            rfl
          | true =>
            rw [f1] at a1
            refine gq_new (l := [.lst (as.map fun d => .bl (sendP d)), .lst (bs.map fun d => .bl (cntP d))]) ?_ rfl
            unfold F_is_deed
            rw [fnM_ap _ _ _ _ _ (by rfl)]
            subst hr
            refine (congrArg fK (seq1 s1 (seq1 s2 (seq1 s3 (seq1 s4 (o := .rt (.bl (bs.all cntP)) (S ++ [.lst (as.map fun d => .bl (sendP d))] ++ [.lst (bs.map fun d => .bl (cntP d))])) ?_))))).trans (by rw [fK_rt, List.append_assoc, Bool.true_and]; rfl)
            rw [sRet_ap, mAnd_ap, a1, bK_ok, kAnd_t, a2]
            rfl
        · rw [if_neg c2] at s4
          have ev : deedP (.tup [t, n, m, w, a, b]) = false := by
            have : (allT sendP a && allT cntP b) = false := by
              cases f1 : isTup a with
              | false => rw [allT_not f1, Bool.false_and]
              | true =>
                cases f2 : isTup b with
                | false => rw [allT_not f2, Bool.and_false]
                | true => rw [f1, f2] at c2; exact absurd rfl c2
            simp only [deedP, this, Bool.and_false]
          rw [ev]
          refine gq_new0 ?_ rfl
          unfold F_is_deed
          rw [fnM_ap _ _ _ _ _ (by rfl)]
          subst hr
          refine (congrArg fK (seq1 s1 (seq1 s2 (seq1 s3 (o := .rt (.bl false) S) ?_)))).trans rfl
          rw [sSeq_ap, s4]
          rfl
      · rw [if_neg c1] at s3
        have ev : deedP (.tup [t, n, m, w, a, b]) = false := by
          rw [e]
          cases e1 : dueP t <;> cases e2 : nameP n <;> cases e3 : nameP m <;> cases e4 : cntP w <;> first | rfl | (rw [e1, e2, e3, e4] at c1; exact absurd rfl c1)
        rw [ev]
        refine gq_new0 ?_ rfl
        unfold F_is_deed
        rw [fnM_ap _ _ _ _ _ (by rfl)]
        subst hr
        refine (congrArg fK (seq1 s1 (seq1 s2 (o := .rt (.bl false) S) ?_))).trans rfl
        rw [sSeq_ap, s3]
        rfl
    · rw [deed_len h6]
      refine gq_new0 ?_ rfl
      unfold F_is_deed
      have e4 : decide ((ds.length : Int) = 6) = false := decide_eq_false (by omega)
      repeat (first | walk_at "ev" | simp only [h1, isTup, e4, Bool.not_false])
  | int i => exact gq_new0 (by unfold F_is_deed; repeat (first | walk_at "ev" | simp only [h1, isTup, deedP])) rfl
  | bl i => exact gq_new0 (by unfold F_is_deed; repeat (first | walk_at "ev" | simp only [h1, isTup, deedP])) rfl
  | non => exact gq_new0 (by unfold F_is_deed; repeat (first | walk_at "ev" | simp only [h1, isTup, deedP])) rfl
  | str i => exact gq_new0 (by unfold F_is_deed; repeat (first | walk_at "ev" | simp only [h1, isTup, deedP])) rfl
  | loc i => exact gq_new0 (by unfold F_is_deed; repeat (first | walk_at "ev" | simp only [h1, isTup, deedP])) rfl
  | _ => simp [okD] at h
end Lw
namespace Lw
open PySem PySem.Spec PyProof.Rows L2 Fa
local macro_rules | `(tactic| walk_at "ev") => `(tactic| simp only [bK_ok, bK_err, bK_bad, bnd_ap, ret_ap, fail_ap, mVar_ap, vK_some, mC_ap, m1_ap, m2_ap, k2_ap, mNil_ap, mCons_ap, kCons_ap, kCon_ap, mA_ap, mIf_ap, kIf_t, kIf_f, tOf_ap, isBl_ap, tNt_ap, kNt_ap, tAn_ap, kAn_t, kAn_f, tOr_ap, kOr_t, kOr_f, mNot_ap, kNot_ap, mAnd_ap, kAnd_t, kAnd_f, mOr_ap, kOrV_t, kOrV_f,
  sSeq_ap, sK_nx, sK_rt, sK_bk, sK_ct, sK_ex, sK_bad, oK_ok, oK_err, oK_bad, kNx_ap, kRt_ap, sEx_ap, sRet_ap, sRetN_ap, sNx_ap, sBad_ap, sIf_ap, kIfS_t, kIfS_f, gN_ap, gT_ap, gT_tt, gTc_ap, gT0_ap, sAs_ap, kAs_ap, kAs2_ok, sPar_ap, kPar_ap, gSubD_ap, kSub1_ap, kSub2_ap, kSub3_ap, fK_nx, fK_rt, fK_ex, mLM_ap, mRng1_ap, mRng2_ap, mSrc_ap, src_t, src_r, src_s, src_k,
  mChain_ap, kCh1_ap, kCh2_ap, kCh3_t, kCh3_f, mSl_ap, kSl1_ap, kSl2_ap, mSlT_ap, kTl1_ap, kTl2_ap, mP0_ap, mP_ap, intO_ap, sl_t, dfl_ap, mTM_ap, kTM_k, kTM_t, mMeth_ap, kMe1_ap, kMe2_ap, kMe3_ap, gFld_ap, kF1_ap, gSubA_ap, kSA1_ap, kSA2_ap, sPar3_ap, kPar3_ap, mkD_ap, mkR_ok, dct0D_ap, mDisp_ap, mPairs_nil, mPairs_cons, kPr1_ap, kPr2_ap, kPr3_ap, tuple_t, list_t, mZip_ap, zip_tt,
  wipeE, nc0, nc1, nc2, nc3, nc4, nc5, nc6, nc7, nc8, nc9, nc10, nc11, nc12, nc13, nc14, nc15, Int.reduceEq, Int.reduceLE, Int.reduceLT, Int.reduceSub, Int.reduceAdd,
  fnM_ap, tupD_ap, lstD_ap, le_line, Nat.reduceLeDiff, eq_self,
  add_ii, sub_ii, neg_i, lt_ii, le_ii, gt_ii, ge_ii, isN_n, isN_i, isN_t, isN_s, isN_b, isN_l, abs_i, max_ii, min_ii, int_i, int_b, len_t, len_r, eq_ii, eq_bb, eq_ss,
  List.map_cons, List.map_nil, List.cons_append, List.nil_append, List.append_nil, List.replicate_succ, List.replicate_zero, List.length_cons, List.length_nil, Nat.reduceSub, Nat.reduceAdd, Nat.sub_self, Nat.zero_add,
  List.getElem?_cons_succ, List.getElem?_cons_zero, List.set_cons_succ, List.set_cons_zero, Bool.not_true, Bool.not_false, decide_true, decide_false, if_true, if_false, reduceIte, Bool.false_eq_true])
local macro_rules | `(tactic| walk_at "ex") => `(tactic| simp only [bK_ok, bK_err, bK_bad, bnd_ap, ret_ap, fail_ap, mVar_ap, vK_some, mC_ap, m1_ap, m2_ap, k2_ap, mNil_ap, mCons_ap, kCons_ap, kCon_ap, mA_ap, mIf_ap, kIf_t, kIf_f, tOf_ap, isBl_ap, tNt_ap, kNt_ap, kAn_t, kAn_f, tOr_ap, kOr_t, kOr_f, mNot_ap, kNot_ap, mAnd_ap, kAnd_t, kAnd_f, mOr_ap, kOrV_t, kOrV_f,
  sSeq_ap, sK_nx, sK_rt, sK_bk, sK_ct, sK_ex, sK_bad, oK_ok, oK_err, oK_bad, kNx_ap, kRt_ap, sEx_ap, sRet_ap, sRetN_ap, sNx_ap, sBad_ap, sIf_ap, kIfS_t, kIfS_f, gN_ap, gT_ap, gT_tt, gTc_ap, gT0_ap, sAs_ap, kAs_ap, kAs2_ok, sPar_ap, kPar_ap, gSubD_ap, kSub1_ap, kSub2_ap, kSub3_ap, fK_nx, fK_rt, fK_ex, mLM_ap, mRng1_ap, mRng2_ap, mSrc_ap, src_t, src_r, src_s, src_k,
  mChain_ap, kCh1_ap, kCh2_ap, kCh3_t, kCh3_f, mSl_ap, kSl1_ap, kSl2_ap, mSlT_ap, kTl1_ap, kTl2_ap, mP0_ap, mP_ap, intO_ap, sl_t, dfl_ap, mTM_ap, kTM_k, kTM_t, mMeth_ap, kMe1_ap, kMe2_ap, kMe3_ap, gFld_ap, kF1_ap, gSubA_ap, kSA1_ap, kSA2_ap, sPar3_ap, kPar3_ap, mkD_ap, mkR_ok, dct0D_ap, mDisp_ap, mPairs_nil, mPairs_cons, kPr1_ap, kPr2_ap, kPr3_ap, tuple_t, list_t, mZip_ap, zip_tt,
  wipeE, nc0, nc1, nc2, nc3, nc4, nc5, nc6, nc7, nc8, nc9, nc10, nc11, nc12, nc13, nc14, nc15, Int.reduceEq, Int.reduceLE, Int.reduceLT, Int.reduceSub, Int.reduceAdd,
  fnM_ap, tupD_ap, lstD_ap, le_line, Nat.reduceLeDiff, eq_self,
  add_ii, sub_ii, neg_i, lt_ii, le_ii, gt_ii, ge_ii, isN_n, isN_i, isN_t, isN_s, isN_b, isN_l, abs_i, max_ii, min_ii, int_i, int_b, len_t, len_r, eq_ii, eq_bb, eq_ss,
  List.map_cons, List.map_nil, List.cons_append, List.nil_append, List.append_nil, List.replicate_succ, List.replicate_zero, List.length_cons, List.length_nil, Nat.reduceSub, Nat.reduceAdd, Nat.sub_self, Nat.zero_add,
  List.getElem?_cons_succ, List.getElem?_cons_zero, List.set_cons_succ, List.set_cons_zero, Bool.not_true, Bool.not_false, decide_true, decide_false, if_true, if_false, reduceIte, Bool.false_eq_true])
/-! ### k90: the law's own look at deeds -/
theorem l_is_deed_q {S : Sto} {d : D} (h : okD S d = true) : gq F_l_is_deed [d] S = .ok (.bl (deedP d)) S := by
  have h1 := isi_tup h
  cases d with
  | tup ds =>
    obtain ⟨hl, hd⟩ := okD_tup h
    by_cases h6 : ds.length = 6
    · obtain ⟨t, n, m, w, a, b, rfl⟩ := six_of h6
      have q1 := l_is_moment_q (hd t (by simp))
      have q2 := l_is_name_q (hd n (by simp))
      have q3 := l_is_name_q (hd m (by simp))
      have q4 := l_is_int_q (hd w (by simp))
      have q5 := isi_tup (hd a (by simp))
      have l : lenD [.tup [t, n, m, w, a, b]] S = .ok (.int 6) S := rfl
      have e2 : eqB true (.int 6) (.int 6) S = .ok (.bl false) S := rfl
      have i0 : ∀ S, ixD (.tup [t, n, m, w, a, b]) (.int 0) S = .ok t S := fun S => ix_t _ rfl
      have i1 : ∀ S, ixD (.tup [t, n, m, w, a, b]) (.int 1) S = .ok n S := fun S => ix_t _ rfl
      have i2 : ∀ S, ixD (.tup [t, n, m, w, a, b]) (.int 2) S = .ok m S := fun S => ix_t _ rfl
      have i3 : ∀ S, ixD (.tup [t, n, m, w, a, b]) (.int 3) S = .ok w S := fun S => ix_t _ rfl
      have i4 : ∀ S, ixD (.tup [t, n, m, w, a, b]) (.int 4) S = .ok a S := fun S => ix_t _ rfl
      have i5 : ∀ S, ixD (.tup [t, n, m, w, a, b]) (.int 5) S = .ok b S := fun S => ix_t _ rfl
      have e : deedP (.tup [t, n, m, w, a, b]) = (dueP t && (nameP n && (nameP m && (cntP w && (allT sendP a && allT cntP b))))) := rfl
      rw [e]
      cases c1 : dueP t with
      | false =>
        rw [c1] at q1
        refine gq_new0 ?_ rfl
        unfold F_l_is_deed
        repeat (first | walk_at "ev" | simp only [h1, isTup, l, e2, i0, q1, Bool.false_and])
      | true =>
        rw [c1] at q1
        have s1 : sIf (Fa.tOr (tNt (tOf (mA isiD (mCons (mVar 0) (mCons (mC (.ty "tuple")) mNil))))) (Fa.tOr (tOf (m2 (eqB true) (mA lenD (mCons (mVar 0) mNil)) (mC (.int 6)))) (tNt (tOf (mA (gq F_l_is_moment) (mCons (m2 ixD (mVar 0) (mC (.int 0))) mNil)))))) (sRet (mC (.bl false))) sNx [some (.tup [t, n, m, w, a, b]), none] S = .nx [some (.tup [t, n, m, w, a, b]), none] S := by
          repeat (first | walk_at "ev" | simp only [h1, isTup, l, e2, i0, q1])
        have s2 : sIf (Fa.tOr (tNt (tOf (mA (gq F_l_is_name) (mCons (m2 ixD (mVar 0) (mC (.int 1))) mNil)))) (Fa.tOr (tNt (tOf (mA (gq F_l_is_name) (mCons (m2 ixD (mVar 0) (mC (.int 2))) mNil)))) (tNt (tOf (mA (gq F_l_is_int) (mCons (m2 ixD (mVar 0) (mC (.int 3))) mNil)))))) (sRet (mC (.bl false))) sNx [some (.tup [t, n, m, w, a, b]), none] S = if (nameP n && (nameP m && cntP w)) = true then .nx [some (.tup [t, n, m, w, a, b]), none] S else .rt (.bl false) S := by
          cases e2 : nameP n <;> cases e3 : nameP m <;> cases e4 : cntP w <;> rw [e2] at q2 <;> rw [e3] at q3 <;> rw [e4] at q4 <;> repeat (first | walk_at "ev" | simp only [i1, i2, i3, q2, q3, q4, Bool.and_true, Bool.and_false, Bool.true_and, Bool.false_and])
        by_cases c2 : (nameP n && (nameP m && cntP w)) = true
        · rw [if_pos c2] at s2
          have ev : (true && (nameP n && (nameP m && (cntP w && (allT sendP a && allT cntP b))))) = (allT sendP a && allT cntP b) := by
            simp only [Bool.and_eq_true] at c2
            simp only [c2.1, c2.2.1, c2.2.2, Bool.true_and]
          rw [ev]
          cases c3 : isTup a with
          | false =>
            rw [c3] at q5
            rw [allT_not c3, Bool.false_and]
            refine gq_new0 ?_ rfl
            unfold F_l_is_deed
            rw [fnM_ap _ _ _ _ _ (by rfl)]
            refine (congrArg fK (seq1 s1 (seq1 s2 (o := .rt (.bl false) S) ?_))).trans rfl
            repeat (first | walk_at "ev" | simp only [i4, q5])
          | true =>
            rw [c3] at q5
            obtain ⟨as, rfl⟩ := isTup_of c3
            obtain ⟨la, oa⟩ := okD_tup (hd (.tup as) (by simp))
            have m4 : ∀ S, m2 ixD (mVar 0) (mC (.int 4)) [some (.tup [t, n, m, w, .tup as, b]), none] S = .ok (.tup as) S := fun S => by
              repeat (first | walk_at "ev" | simp only [i4])
            have a1 := alls l_is_letter_q (m := m2 ixD (mVar 0) (mC (.int 4))) (j := 1) (r := [some (.tup [t, n, m, w, .tup as, b]), none]) (S := S) (m4 S) rfl (by simp) oa la
            have t1 : tOf (mA isiD (mCons (m2 ixD (mVar 0) (mC (.int 4))) (mCons (mC (.ty "tuple")) mNil))) [some (.tup [t, n, m, w, .tup as, b]), none] S = .ok true S := by
              repeat (first | walk_at "ev" | simp only [i4, q5])
            have s3 : sIf (Fa.tOr (tNt (tOf (mA isiD (mCons (m2 ixD (mVar 0) (mC (.int 4))) (mCons (mC (.ty "tuple")) mNil))))) (tNt (tOf (mA allD (mCons (mLc (mSrc (m2 ixD (mVar 0) (mC (.int 4)))) (gN 1) tT (mA (gq F_l_is_letter) (mCons (mVar 1) mNil)) [1]) mNil))))) (sRet (mC (.bl false))) sNx [some (.tup [t, n, m, w, .tup as, b]), none] S = if as.all sendP = true then .nx [some (.tup [t, n, m, w, .tup as, b]), none] (S ++ [.lst (as.map fun d => .bl (sendP d))]) else .rt (.bl false) (S ++ [.lst (as.map fun d => .bl (sendP d))]) := by
              rw [sIf_ap, tOr_ap, tNt_ap, t1, bK_ok, kNt_ap, bK_ok, Bool.not_true, kOr_f, tNt_ap, tOf_ap, a1]
              cases as.all sendP <;> rfl
            show gq F_l_is_deed _ S = .ok (.bl (as.all sendP && allT cntP b)) S
            cases f1 : as.all sendP with
            | false =>
              rw [f1, if_neg Bool.false_ne_true] at s3
              refine gq_new (l := [.lst (as.map fun d => .bl (sendP d))]) ?_ rfl
              unfold F_l_is_deed
              rw [fnM_ap _ _ _ _ _ (by rfl)]
              refine (congrArg fK (seq1 s1 (seq1 s2 (o := .rt (.bl false) (S ++ [.lst (as.map fun d => .bl (sendP d))])) ?_))).trans rfl
              rw [sSeq_ap, s3]
              rfl
            | true =>
              rw [f1, if_pos rfl] at s3
              have q6 := isi_tup (okD_app (l := [.lst (as.map fun d => .bl (sendP d))]) (hd b (by simp)))
              have p6 : mA isiD (mCons (m2 ixD (mVar 0) (mC (.int 5))) (mCons (mC (.ty "tuple")) mNil)) [some (.tup [t, n, m, w, .tup as, b]), none] (S ++ [.lst (as.map fun d => .bl (sendP d))]) = .ok (.bl (isTup b)) (S ++ [.lst (as.map fun d => .bl (sendP d))]) := by
                repeat (first | walk_at "ev" | simp only [i5, q6])
              cases c4 : isTup b with
              | false =>
                rw [c4] at p6
                rw [allT_not c4, Bool.and_false]
                refine gq_new (l := [.lst (as.map fun d => .bl (sendP d))]) ?_ rfl
                unfold F_l_is_deed
                rw [fnM_ap _ _ _ _ _ (by rfl)]
                refine (congrArg fK (seq1 s1 (seq1 s2 (seq1 s3 (o := .rt (.bl false) (S ++ [.lst (as.map fun d => .bl (sendP d))])) ?_)))).trans rfl
                rw [sRet_ap, mAnd_ap, p6]
                rfl
              | true =>
                rw [c4] at p6
                obtain ⟨bs, rfl⟩ := isTup_of c4
                obtain ⟨lb, ob⟩ := okD_tup (hd (.tup bs) (by simp))
                have m5 : ∀ S, m2 ixD (mVar 0) (mC (.int 5)) [some (.tup [t, n, m, w, .tup as, .tup bs]), none] S = .ok (.tup bs) S := fun S => by
                  repeat (first | walk_at "ev" | simp only [i5])
                have a2 := alls l_is_int_q (m := m2 ixD (mVar 0) (mC (.int 5))) (j := 1) (r := [some (.tup [t, n, m, w, .tup as, .tup bs]), none]) (S := S ++ [.lst (as.map fun d => .bl (sendP d))]) (m5 _) rfl (by simp) (fun d hd => okD_app (ob d hd)) lb
                refine gq_new (l := [.lst (as.map fun d => .bl (sendP d)), .lst (bs.map fun d => .bl (cntP d))]) ?_ rfl
                unfold F_l_is_deed
                rw [fnM_ap _ _ _ _ _ (by rfl)]
                refine (congrArg fK (seq1 s1 (seq1 s2 (seq1 s3 (o := .rt (.bl (bs.all cntP)) (S ++ [.lst (as.map fun d => .bl (sendP d))] ++ [.lst (bs.map fun d => .bl (cntP d))])) ?_)))).trans (by rw [fK_rt, List.append_assoc, Bool.true_and]; rfl)
                rw [sRet_ap, mAnd_ap, p6, bK_ok, kAnd_t, a2]
                rfl
        · rw [if_neg c2] at s2
          have ev : (true && (nameP n && (nameP m && (cntP w && (allT sendP a && allT cntP b))))) = false := by
            cases e2 : nameP n <;> cases e3 : nameP m <;> cases e4 : cntP w <;> first | rfl | (rw [e2, e3, e4] at c2; exact absurd rfl c2)
          rw [ev]
          refine gq_new0 ?_ rfl
          unfold F_l_is_deed
          rw [fnM_ap _ _ _ _ _ (by rfl)]
          refine (congrArg fK (seq1 s1 (o := .rt (.bl false) S) ?_)).trans rfl
          rw [sSeq_ap, s2]
          rfl
    · rw [deed_len h6]
      refine gq_new0 ?_ rfl
      unfold F_l_is_deed
      have e4 : decide ((ds.length : Int) = 6) = false := decide_eq_false (by omega)
      repeat (first | walk_at "ev" | simp only [h1, isTup, e4, Bool.not_false])
  | int i => exact gq_new0 (by unfold F_l_is_deed; repeat (first | walk_at "ev" | simp only [h1, isTup, deedP])) rfl
  | bl i => exact gq_new0 (by unfold F_l_is_deed; repeat (first | walk_at "ev" | simp only [h1, isTup, deedP])) rfl
  | non => exact gq_new0 (by unfold F_l_is_deed; repeat (first | walk_at "ev" | simp only [h1, isTup, deedP])) rfl
  | str i => exact gq_new0 (by unfold F_l_is_deed; repeat (first | walk_at "ev" | simp only [h1, isTup, deedP])) rfl
  | loc i => exact gq_new0 (by unfold F_l_is_deed; repeat (first | walk_at "ev" | simp only [h1, isTup, deedP])) rfl
  | _ => simp [okD] at h
end Lw
namespace Lw
open PySem PySem.Spec PyProof.Rows L2 Fa
local macro_rules | `(tactic| walk_at "ev") => `(tactic| simp only [bK_ok, bK_err, bK_bad, bnd_ap, ret_ap, fail_ap, mVar_ap, vK_some, mC_ap, m1_ap, m2_ap, k2_ap, mNil_ap, mCons_ap, kCons_ap, kCon_ap, mA_ap, mIf_ap, kIf_t, kIf_f, tOf_ap, isBl_ap, tNt_ap, kNt_ap, tAn_ap, kAn_t, kAn_f, tOr_ap, kOr_t, kOr_f, mNot_ap, kNot_ap, mAnd_ap, kAnd_t, kAnd_f, mOr_ap, kOrV_t, kOrV_f,
  sSeq_ap, sK_nx, sK_rt, sK_bk, sK_ct, sK_ex, sK_bad, oK_ok, oK_err, oK_bad, kNx_ap, kRt_ap, sEx_ap, sRet_ap, sRetN_ap, sNx_ap, sBad_ap, sIf_ap, kIfS_t, kIfS_f, gN_ap, gT_ap, gT_tt, gTc_ap, gT0_ap, sAs_ap, kAs_ap, kAs2_ok, sPar_ap, kPar_ap, gSubD_ap, kSub1_ap, kSub2_ap, kSub3_ap, fK_nx, fK_rt, fK_ex, mLM_ap, mRng1_ap, mRng2_ap, mSrc_ap, src_t, src_r, src_s, src_k,
  mChain_ap, kCh1_ap, kCh2_ap, kCh3_t, kCh3_f, mSl_ap, kSl1_ap, kSl2_ap, mSlT_ap, kTl1_ap, kTl2_ap, mP0_ap, mP_ap, intO_ap, sl_t, dfl_ap, mTM_ap, kTM_k, kTM_t, mMeth_ap, kMe1_ap, kMe2_ap, kMe3_ap, gFld_ap, kF1_ap, gSubA_ap, kSA1_ap, kSA2_ap, sPar3_ap, kPar3_ap, mkD_ap, mkR_ok, dct0D_ap, mDisp_ap, mPairs_nil, mPairs_cons, kPr1_ap, kPr2_ap, kPr3_ap, tuple_t, list_t, mZip_ap, zip_tt,
  wipeE, nc0, nc1, nc2, nc3, nc4, nc5, nc6, nc7, nc8, nc9, nc10, nc11, nc12, nc13, nc14, nc15, Int.reduceEq, Int.reduceLE, Int.reduceLT, Int.reduceSub, Int.reduceAdd,
  fnM_ap, tupD_ap, lstD_ap, le_line, Nat.reduceLeDiff, eq_self,
  add_ii, sub_ii, neg_i, lt_ii, le_ii, gt_ii, ge_ii, isN_n, isN_i, isN_t, isN_s, isN_b, isN_l, abs_i, max_ii, min_ii, int_i, int_b, len_t, len_r, eq_ii, eq_bb, eq_ss,
  List.map_cons, List.map_nil, List.cons_append, List.nil_append, List.append_nil, List.replicate_succ, List.replicate_zero, List.length_cons, List.length_nil, Nat.reduceSub, Nat.reduceAdd, Nat.sub_self, Nat.zero_add,
  List.getElem?_cons_succ, List.getElem?_cons_zero, List.set_cons_succ, List.set_cons_zero, Bool.not_true, Bool.not_false, decide_true, decide_false, if_true, if_false, reduceIte, Bool.false_eq_true])
local macro_rules | `(tactic| walk_at "ex") => `(tactic| simp only [bK_ok, bK_err, bK_bad, bnd_ap, ret_ap, fail_ap, mVar_ap, vK_some, mC_ap, m1_ap, m2_ap, k2_ap, mNil_ap, mCons_ap, kCons_ap, kCon_ap, mA_ap, mIf_ap, kIf_t, kIf_f, tOf_ap, isBl_ap, tNt_ap, kNt_ap, kAn_t, kAn_f, tOr_ap, kOr_t, kOr_f, mNot_ap, kNot_ap, mAnd_ap, kAnd_t, kAnd_f, mOr_ap, kOrV_t, kOrV_f,
  sSeq_ap, sK_nx, sK_rt, sK_bk, sK_ct, sK_ex, sK_bad, oK_ok, oK_err, oK_bad, kNx_ap, kRt_ap, sEx_ap, sRet_ap, sRetN_ap, sNx_ap, sBad_ap, sIf_ap, kIfS_t, kIfS_f, gN_ap, gT_ap, gT_tt, gTc_ap, gT0_ap, sAs_ap, kAs_ap, kAs2_ok, sPar_ap, kPar_ap, gSubD_ap, kSub1_ap, kSub2_ap, kSub3_ap, fK_nx, fK_rt, fK_ex, mLM_ap, mRng1_ap, mRng2_ap, mSrc_ap, src_t, src_r, src_s, src_k,
  mChain_ap, kCh1_ap, kCh2_ap, kCh3_t, kCh3_f, mSl_ap, kSl1_ap, kSl2_ap, mSlT_ap, kTl1_ap, kTl2_ap, mP0_ap, mP_ap, intO_ap, sl_t, dfl_ap, mTM_ap, kTM_k, kTM_t, mMeth_ap, kMe1_ap, kMe2_ap, kMe3_ap, gFld_ap, kF1_ap, gSubA_ap, kSA1_ap, kSA2_ap, sPar3_ap, kPar3_ap, mkD_ap, mkR_ok, dct0D_ap, mDisp_ap, mPairs_nil, mPairs_cons, kPr1_ap, kPr2_ap, kPr3_ap, tuple_t, list_t, mZip_ap, zip_tt,
  wipeE, nc0, nc1, nc2, nc3, nc4, nc5, nc6, nc7, nc8, nc9, nc10, nc11, nc12, nc13, nc14, nc15, Int.reduceEq, Int.reduceLE, Int.reduceLT, Int.reduceSub, Int.reduceAdd,
  fnM_ap, tupD_ap, lstD_ap, le_line, Nat.reduceLeDiff, eq_self,
  add_ii, sub_ii, neg_i, lt_ii, le_ii, gt_ii, ge_ii, isN_n, isN_i, isN_t, isN_s, isN_b, isN_l, abs_i, max_ii, min_ii, int_i, int_b, len_t, len_r, eq_ii, eq_bb, eq_ss,
  List.map_cons, List.map_nil, List.cons_append, List.nil_append, List.append_nil, List.replicate_succ, List.replicate_zero, List.length_cons, List.length_nil, Nat.reduceSub, Nat.reduceAdd, Nat.sub_self, Nat.zero_add,
  List.getElem?_cons_succ, List.getElem?_cons_zero, List.set_cons_succ, List.set_cons_zero, Bool.not_true, Bool.not_false, decide_true, decide_false, if_true, if_false, reduceIte, Bool.false_eq_true])
/-! ### k90: texts -/
theorem sapp_assoc (a b c : Str) : a ++ b ++ c = a ++ (b ++ c) := by
  show (⟨(a.cps ++ b.cps) ++ c.cps⟩ : Str) = ⟨a.cps ++ (b.cps ++ c.cps)⟩
  rw [Array.append_assoc]
theorem jn_cons (s x : Str) {r : List Str} (h : r ≠ []) : Str.join s (x :: r) = x ++ (s ++ Str.join s r) := by
  match r, h with
  | y :: r, _ =>
    show x ++ s ++ Str.join s (y :: r) = _
    rw [sapp_assoc]
theorem jn_app (s : Str) : ∀ (A : List Str) {B : List Str}, A ≠ [] → B ≠ [] → Str.join s (A ++ B) = Str.join s A ++ (s ++ Str.join s B)
  | [x], B, _, h => by
    rw [List.singleton_append, jn_cons s x h]
    rfl
  | x :: y :: A, B, _, h => by
    rw [List.cons_append, jn_cons s x (by simp), jn_cons s x (by simp), jn_app s (y :: A) (by simp) h, sapp_assoc, sapp_assoc]
theorem jn_flat (s : Str) : ∀ (L : List (List Str)), (∀ w ∈ L, w ≠ []) → Str.join s (L.map (Str.join s)) = Str.join s L.flatten
  | [], _ => rfl
  | [w], _ => by
    rw [List.map_cons, List.map_nil, List.flatten_cons, List.flatten_nil, List.append_nil]
    rfl
  | w :: v :: L, h => by
    have hv : (v :: L).flatten ≠ [] := by
      have := h v (by simp)
      intro e
      rw [List.flatten_cons, List.append_eq_nil_iff] at e
      exact this e.1
    have e : (w :: v :: L).flatten = w ++ (v :: L).flatten := rfl
    rw [List.map_cons, jn_cons s _ (by simp), jn_flat s (v :: L) (fun x hx => h x (List.mem_cons_of_mem _ hx)), e, jn_app s w (h w (by simp)) hv]
abbrev bk : Str := PySem.Str.ofString " "
abbrev ts (i : Int) : Str := PySem.Str.ofString (toString i)
abbrev dot : Str := PySem.Str.ofString "."
structure Snd where
  (l k x y u : Int)
def Snd.d (s : Snd) : D := .tup [.int s.l, .int s.k, .tup [.int s.x, .int s.y], .int s.u]
def st2 (x y : Int) : Str := ts x ++ dot ++ ts y
def Snd.w (s : Snd) : List Str := [PySem.Str.ofString ">", ts s.l, ts s.k, st2 s.x s.y, ts s.u]
def vw (i : Int) : List Str := [PySem.Str.ofString ":", ts i]
structure Dd where
  (a b : Int) (n m : Str) (w : Int) (sl : List Snd) (vl : List Int)
def Dd.d (e : Dd) : D := .tup [.tup [.int e.a, .int e.b], .str e.n, .str e.m, .int e.w, .tup (e.sl.map Snd.d), .tup (e.vl.map D.int)]
def Dd.w0 (e : Dd) : List Str := [st2 e.a e.b, e.n, e.m, ts e.w]
def Dd.ws (e : Dd) : List (List Str) := e.w0 :: (e.sl.map Snd.w ++ e.vl.map vw)
def Dd.txt (e : Dd) : Str := Str.join bk e.ws.flatten
/-- how long the words are in all, with a blank for each -/
def wsum (l : List Str) : Nat := (l.map (·.length)).sum + l.length
theorem wsum_app (a b : List Str) : wsum (a ++ b) = wsum a + wsum b := by
  unfold wsum
  rw [List.map_append, List.sum_append, List.length_append]
  omega
theorem jn_len (l : List Str) : (Str.join bk l).length ≤ wsum l := by
  have := StrLaws.join_length_le bk l
  have e : bk.length = 1 := rfl
  rw [e, Nat.mul_one] at this
  exact this
theorem strs_map : ∀ ys : List Str, strsOf (ys.map D.str) = some ys
  | [] => rfl
  | y :: ys => by
    rw [List.map_cons]
    unfold strsOf
    rw [strs_map ys]
    rfl
theorem join_q {n : Nat} {ys : List Str} {S : Sto} (h : S[n]? = some (.lst (ys.map D.str))) (hl : wsum ys ≤ 16777216) : joinD (.str bk) [.loc n] S = .ok (.str (Str.join bk ys)) S := by
  rw [join_l h (strs_map ys) (by have e : bk.length = 1 := rfl; rw [e, Nat.mul_one]; exact hl), TL.join_eq]
structure Dd.ok (e : Dd) : Prop where
  hi : ∀ i ∈ [e.a, e.b, e.w], i.natAbs.log2 < 1920
  hs : ∀ s ∈ e.sl, ∀ i ∈ [s.l, s.k, s.x, s.y, s.u], i.natAbs.log2 < 1920
  hv : ∀ i ∈ e.vl, i.natAbs.log2 < 1920
  hl : wsum e.ws.flatten ≤ 1000000
  hn : e.sl.length ≤ 1000
  hm : e.vl.length ≤ 1000
theorem str_i {i : Int} (h : i.natAbs.log2 < 1920) (S : Sto) : strD [.int i] S = .ok (.str (ts i)) S := if_pos h
theorem fmt_i {i : Int} (h : i.natAbs.log2 < 1920) (S : Sto) : fmtD (.int i) S = .ok (.str (ts i)) S := if_pos h
theorem show_stamp_q {x y : Int} (hx : x.natAbs.log2 < 1920) (hy : y.natAbs.log2 < 1920) (hl : (st2 x y).length ≤ 1000000) (S : Sto) : gq F_show_stamp [.tup [.int x, .int y]] S = .ok (.str (st2 x y)) S := by
  refine gq_new0 ?_ rfl
  unfold F_show_stamp
  have n1 : isN false (.tup [.int x, .int y]) .non S = .ok (.bl false) S := rfl
  have i0 : ixD (.tup [.int x, .int y]) (.int 0) S = .ok (.int x) S := ix_t _ rfl
  have i1 : ixD (.tup [.int x, .int y]) (.int 1) S = .ok (.int y) S := ix_t _ rfl
  have f0 := fmt_i hx S
  have f1 := fmt_i hy S
  have a0 : m1 fmtD (m2 ixD (mVar 0) (mC (.int 0))) [some (.tup [.int x, .int y])] S = .ok (.str (ts x)) S := by
    repeat (first | walk_at "ev" | simp only [i0, f0])
  have a1 : m1 fmtD (m2 ixD (mVar 0) (mC (.int 1))) [some (.tup [.int x, .int y])] S = .ok (.str (ts y)) S := by
    repeat (first | walk_at "ev" | simp only [i1, f1])
  have e0 : Str.empty ++ ts x = ts x := by
    show (⟨#[] ++ (ts x).cps⟩ : Str) = _
    rw [Array.empty_append]
  have hlen : (st2 x y).length = (ts x).length + dot.length + (ts y).length := by
    unfold st2
    show ((ts x).cps ++ dot.cps ++ (ts y).cps).size = _
    rw [Array.size_append, Array.size_append]
    rfl
  have hJ : mJs [(m1 fmtD (m2 ixD (mVar 0) (mC (.int 0)))), (mC (.str (PySem.Str.ofString "."))), (m1 fmtD (m2 ixD (mVar 0) (mC (.int 1))))] Str.empty [some (.tup [.int x, .int y])] S = .ok (.str (st2 x y)) S := by
    have b1 : (Str.empty ++ ts x).length ≤ sizeLine := by rw [e0, sizeLine_eq]; omega
    have b2 : (Str.empty ++ ts x ++ dot).length ≤ sizeLine := by
      rw [e0, sizeLine_eq]
      have : (ts x ++ dot).length = (ts x).length + dot.length := by
        show ((ts x).cps ++ dot.cps).size = _
        rw [Array.size_append]
        rfl
      omega
    have b3 : (Str.empty ++ ts x ++ dot ++ ts y).length ≤ sizeLine := by
      rw [e0, sizeLine_eq]
      show (st2 x y).length ≤ _
      omega
    unfold mJs
    rw [bnd_ap, a0, bK_ok]
    show (if (Str.empty ++ ts x).length ≤ sizeLine then _ else _) = _
    rw [if_pos b1]
    unfold mJs
    rw [bnd_ap, mC_ap, bK_ok]
    show (if (Str.empty ++ ts x ++ dot).length ≤ sizeLine then _ else _) = _
    rw [if_pos b2]
    unfold mJs
    rw [bnd_ap, a1, bK_ok]
    show (if (Str.empty ++ ts x ++ dot ++ ts y).length ≤ sizeLine then _ else _) = _
    rw [if_pos b3, e0]
    rfl
  repeat (first | simp only [hJ] | walk_at "ev" | simp only [n1])
/-- words: texts and whole numbers -/
inductive Wd : D → Str → Prop
  | s (x : Str) : Wd (.str x) x
  | i {i : Int} (h : i.natAbs.log2 < 1920) : Wd (.int i) (ts i)
inductive Wds : List D → List Str → Prop
  | nil : Wds [] []
  | cons {d : D} {x : Str} {ds : List D} {xs : List Str} (h : Wd d x) (t : Wds ds xs) : Wds (d :: ds) (x :: xs)
theorem Wd.str {d : D} {x : Str} (h : Wd d x) (S : Sto) : strD [d] S = .ok (.str x) S := by
  cases h with
  | s x => rfl
  | i h => exact str_i h S
noncomputable def wdOf (d : D) : Str := match d with
  | .str x => x
  | .int i => ts i
  | _ => bk
theorem Wds.map {ds : List D} {xs : List Str} (h : Wds ds xs) : ds.map wdOf = xs ∧ ∀ d ∈ ds, Wd d (wdOf d) := by
  induction h with
  | nil => exact ⟨rfl, fun _ h => nomatch h⟩
  | cons h _ ih =>
    have e : ∀ {d : D} {x : Str}, Wd d x → wdOf d = x := fun h => by cases h <;> rfl
    refine ⟨by rw [List.map_cons, e h, ih.1], fun d hd => ?_⟩
    rcases List.mem_cons.mp hd with rfl | hd
    · rw [e h]; exact h
    · exact ih.2 d hd
theorem line_q {ds : List D} {xs : List Str} (h : Wds ds xs) (hl : wsum xs ≤ 16777216) (hn : ds.length ≤ 1000) (S : Sto) : gq F_line_of ds S = .ok (.str (Str.join bk xs)) S := by
  obtain ⟨h1, h2⟩ := h.map
  refine gq_new (l := [.lst (xs.map D.str)]) ?_ rfl
  unfold F_line_of varM
  rw [if_pos hn, fnM_ap _ _ _ _ _ (by rfl)]
  have hm := mLc_map (m := mSrc (mVar 0)) (src := .items ds) ds (fun d => D.str (wdOf d)) (g := gN 1) (e := mA strD (mCons (mVar 1) mNil)) (vs := [1]) (r := [some (.tup ds), none]) (S := S) (S0 := S) rfl rfl (fun l i => next_of_items _ _ _)
    (fun d hd l => ⟨[some (.tup ds), some d], rfl, by
      have q := (h2 d hd).str (S ++ l)
      repeat (first | walk_at "ev" | simp only [q])⟩) (le_line hn)
  have e : (ds.map fun d => D.str (wdOf d)) = xs.map D.str := by
    rw [← h1, List.map_map]
    rfl
  rw [e] at hm
  have j := join_q (at_end S (.lst (xs.map D.str))) hl
  refine (congrArg fK (?_ : sRet _ [some (.tup ds), none] S = Out.rt (.str (Str.join bk xs)) _)).trans rfl
  rw [sRet_ap]
  have : mSM joinD (mC (.str (PySem.Str.ofString " "))) (mLc (mSrc (mVar 0)) (gN 1) tT (mA strD (mCons (mVar 1) mNil)) [1]) [some (.tup ds), none] S = .ok (.str (Str.join bk xs)) (S ++ [.lst (xs.map D.str)]) := by
    unfold mSM
    rw [bnd_ap, mC_ap, bK_ok]
    show bnd _ _ S = _
    rw [bnd_ap, hm, bK_ok]
    exact j
  rw [this]
  rfl
end Lw
namespace Lw
open PySem PySem.Spec PyProof.Rows L2 Fa
local macro_rules | `(tactic| walk_at "ev") => `(tactic| simp only [bK_ok, bK_err, bK_bad, bnd_ap, ret_ap, fail_ap, mVar_ap, vK_some, mC_ap, m1_ap, m2_ap, k2_ap, mNil_ap, mCons_ap, kCons_ap, kCon_ap, mA_ap, mIf_ap, kIf_t, kIf_f, tOf_ap, isBl_ap, tNt_ap, kNt_ap, tAn_ap, kAn_t, kAn_f, tOr_ap, kOr_t, kOr_f, mNot_ap, kNot_ap, mAnd_ap, kAnd_t, kAnd_f, mOr_ap, kOrV_t, kOrV_f,
  sSeq_ap, sK_nx, sK_rt, sK_bk, sK_ct, sK_ex, sK_bad, oK_ok, oK_err, oK_bad, kNx_ap, kRt_ap, sEx_ap, sRet_ap, sRetN_ap, sNx_ap, sBad_ap, sIf_ap, kIfS_t, kIfS_f, gN_ap, gT_ap, gT_tt, gTc_ap, gT0_ap, sAs_ap, kAs_ap, kAs2_ok, sPar_ap, kPar_ap, gSubD_ap, kSub1_ap, kSub2_ap, kSub3_ap, fK_nx, fK_rt, fK_ex, mLM_ap, mRng1_ap, mRng2_ap, mSrc_ap, src_t, src_r, src_s, src_k,
  mChain_ap, kCh1_ap, kCh2_ap, kCh3_t, kCh3_f, mSl_ap, kSl1_ap, kSl2_ap, mSlT_ap, kTl1_ap, kTl2_ap, mP0_ap, mP_ap, intO_ap, sl_t, dfl_ap, mTM_ap, kTM_k, kTM_t, mMeth_ap, kMe1_ap, kMe2_ap, kMe3_ap, gFld_ap, kF1_ap, gSubA_ap, kSA1_ap, kSA2_ap, sPar3_ap, kPar3_ap, mkD_ap, mkR_ok, dct0D_ap, mDisp_ap, mPairs_nil, mPairs_cons, kPr1_ap, kPr2_ap, kPr3_ap, tuple_t, list_t, mZip_ap, zip_tt,
  wipeE, nc0, nc1, nc2, nc3, nc4, nc5, nc6, nc7, nc8, nc9, nc10, nc11, nc12, nc13, nc14, nc15, Int.reduceEq, Int.reduceLE, Int.reduceLT, Int.reduceSub, Int.reduceAdd,
  fnM_ap, tupD_ap, lstD_ap, le_line, Nat.reduceLeDiff, eq_self,
  add_ii, sub_ii, neg_i, lt_ii, le_ii, gt_ii, ge_ii, isN_n, isN_i, isN_t, isN_s, isN_b, isN_l, abs_i, max_ii, min_ii, int_i, int_b, len_t, len_r, eq_ii, eq_bb, eq_ss,
  List.map_cons, List.map_nil, List.cons_append, List.nil_append, List.append_nil, List.replicate_succ, List.replicate_zero, List.length_cons, List.length_nil, Nat.reduceSub, Nat.reduceAdd, Nat.sub_self, Nat.zero_add,
  List.getElem?_cons_succ, List.getElem?_cons_zero, List.set_cons_succ, List.set_cons_zero, Bool.not_true, Bool.not_false, decide_true, decide_false, if_true, if_false, reduceIte, Bool.false_eq_true])
local macro_rules | `(tactic| walk_at "ex") => `(tactic| simp only [bK_ok, bK_err, bK_bad, bnd_ap, ret_ap, fail_ap, mVar_ap, vK_some, mC_ap, m1_ap, m2_ap, k2_ap, mNil_ap, mCons_ap, kCons_ap, kCon_ap, mA_ap, mIf_ap, kIf_t, kIf_f, tOf_ap, isBl_ap, tNt_ap, kNt_ap, kAn_t, kAn_f, tOr_ap, kOr_t, kOr_f, mNot_ap, kNot_ap, mAnd_ap, kAnd_t, kAnd_f, mOr_ap, kOrV_t, kOrV_f,
  sSeq_ap, sK_nx, sK_rt, sK_bk, sK_ct, sK_ex, sK_bad, oK_ok, oK_err, oK_bad, kNx_ap, kRt_ap, sEx_ap, sRet_ap, sRetN_ap, sNx_ap, sBad_ap, sIf_ap, kIfS_t, kIfS_f, gN_ap, gT_ap, gT_tt, gTc_ap, gT0_ap, sAs_ap, kAs_ap, kAs2_ok, sPar_ap, kPar_ap, gSubD_ap, kSub1_ap, kSub2_ap, kSub3_ap, fK_nx, fK_rt, fK_ex, mLM_ap, mRng1_ap, mRng2_ap, mSrc_ap, src_t, src_r, src_s, src_k,
  mChain_ap, kCh1_ap, kCh2_ap, kCh3_t, kCh3_f, mSl_ap, kSl1_ap, kSl2_ap, mSlT_ap, kTl1_ap, kTl2_ap, mP0_ap, mP_ap, intO_ap, sl_t, dfl_ap, mTM_ap, kTM_k, kTM_t, mMeth_ap, kMe1_ap, kMe2_ap, kMe3_ap, gFld_ap, kF1_ap, gSubA_ap, kSA1_ap, kSA2_ap, sPar3_ap, kPar3_ap, mkD_ap, mkR_ok, dct0D_ap, mDisp_ap, mPairs_nil, mPairs_cons, kPr1_ap, kPr2_ap, kPr3_ap, tuple_t, list_t, mZip_ap, zip_tt,
  wipeE, nc0, nc1, nc2, nc3, nc4, nc5, nc6, nc7, nc8, nc9, nc10, nc11, nc12, nc13, nc14, nc15, Int.reduceEq, Int.reduceLE, Int.reduceLT, Int.reduceSub, Int.reduceAdd,
  fnM_ap, tupD_ap, lstD_ap, le_line, Nat.reduceLeDiff, eq_self,
  add_ii, sub_ii, neg_i, lt_ii, le_ii, gt_ii, ge_ii, isN_n, isN_i, isN_t, isN_s, isN_b, isN_l, abs_i, max_ii, min_ii, int_i, int_b, len_t, len_r, eq_ii, eq_bb, eq_ss,
  List.map_cons, List.map_nil, List.cons_append, List.nil_append, List.append_nil, List.replicate_succ, List.replicate_zero, List.length_cons, List.length_nil, Nat.reduceSub, Nat.reduceAdd, Nat.sub_self, Nat.zero_add,
  List.getElem?_cons_succ, List.getElem?_cons_zero, List.set_cons_succ, List.set_cons_zero, Bool.not_true, Bool.not_false, decide_true, decide_false, if_true, if_false, reduceIte, Bool.false_eq_true])
/-! ### k90: show_deed -/
theorem ext_stmt {r : Fa.Env} {j n : Nat} {S : Sto} {xs ys : List D} {c : Fa.Env → M D} (hv : mVar j r S = .ok (.loc n) S) (hn : S[n]? = some (.lst xs)) (hc : c r S = .ok (.loc S.length) (S ++ [.lst ys])) (hz : xs.length + ys.length ≤ 10000) :
    sEx (mLM extD (mVar j) (mCons c mNil)) r S = .nx r ((S ++ [MO.lst ys]).set n (.lst (xs ++ ys))) := by
  have e := ext_l (S := S ++ [.lst ys]) (n := n) (m := S.length) (at_old hn) (at_end S (.lst ys)) (by rw [sizeLine_eq]; omega)
  rw [sEx_ap, mLM_ap, hv, bK_ok, kLM_l hn, mCons_ap, hc, bK_ok, kCons_ap, mNil_ap, bK_ok, kCon_ap, bK_ok, e]
  rfl
def sdW : D → Str
  | .tup [.int l, .int k, .tup [.int x, .int y], .int u] => Str.join bk (Snd.w ⟨l, k, x, y, u⟩)
  | _ => bk
def vdW : D → Str
  | .int i => Str.join bk (vw i)
  | _ => bk
theorem sdW_d (s : Snd) : sdW s.d = Str.join bk s.w := rfl
theorem wsum_le {w : List Str} {L : List (List Str)} (h : w ∈ L) : wsum w ≤ wsum L.flatten := by
  induction L with
  | nil => cases h
  | cons v L ih =>
    rw [List.flatten_cons, wsum_app]
    rcases List.mem_cons.mp h with rfl | h
    · omega
    · have := ih h
      omega
theorem len_le {x : Str} {w : List Str} (h : x ∈ w) : x.length ≤ wsum w := by
  induction w with
  | nil => cases h
  | cons v w ih =>
    have e : wsum (v :: w) = v.length + 1 + wsum w := by
      unfold wsum
      rw [List.map_cons, List.sum_cons, List.length_cons]
      omega
    rw [e]
    rcases List.mem_cons.mp h with rfl | h
    · omega
    · have := ih h
      omega
theorem Dd.flat (e : Dd) : Str.join bk (Str.join bk e.w0 :: (e.sl.map (fun s => Str.join bk s.w) ++ e.vl.map fun i => Str.join bk (vw i))) = e.txt := by
  have := jn_flat bk e.ws (fun w hw => by
    unfold Dd.ws at hw
    rcases List.mem_cons.mp hw with rfl | hw
    · simp [Dd.w0]
    · rcases List.mem_append.mp hw with hw | hw
      · obtain ⟨s, _, rfl⟩ := List.mem_map.mp hw
        simp [Snd.w]
      · obtain ⟨i, _, rfl⟩ := List.mem_map.mp hw
        simp [vw])
  unfold Dd.ws at this
  rw [List.map_cons, List.map_append, List.map_map, List.map_map] at this
  exact this
theorem wsum_jn (L : List (List Str)) : wsum (L.map (Str.join bk)) ≤ wsum L.flatten + L.length := by
  induction L with
  | nil => exact Nat.zero_le _
  | cons w L ih =>
    have e : wsum ((w :: L).map (Str.join bk)) = (Str.join bk w).length + 1 + wsum (L.map (Str.join bk)) := by
      unfold wsum
      rw [List.map_cons, List.map_cons, List.sum_cons, List.length_cons]
      omega
    rw [e, List.flatten_cons, wsum_app, List.length_cons]
    have := jn_len w
    omega
theorem show_q {e : Dd} (he : e.ok) {S : Sto} (ho : okD S e.d = true) (hd : deedP e.d = true) : gq F_show_deed [e.d] S = .ok (.str e.txt) S := by
  have q := is_deed_q ho
  rw [hd] at q
  have W0 : wsum e.w0 ≤ 1000000 := Nat.le_trans (wsum_le (L := e.ws) (by simp [Dd.ws])) he.hl
  have WS : ∀ s ∈ e.sl, wsum s.w ≤ 1000000 := fun s hs => Nat.le_trans (wsum_le (L := e.ws) (by simp only [Dd.ws, List.mem_cons, List.mem_append, List.mem_map]; exact .inr (.inl ⟨s, hs, rfl⟩))) he.hl
  have WV : ∀ i ∈ e.vl, wsum (vw i) ≤ 1000000 := fun i hi => Nat.le_trans (wsum_le (L := e.ws) (by simp only [Dd.ws, List.mem_cons, List.mem_append, List.mem_map]; exact .inr (.inr ⟨i, hi, rfl⟩))) he.hl
  have ss := show_stamp_q (he.hi e.a (by simp)) (he.hi e.b (by simp)) (Nat.le_trans (len_le (w := e.w0) (by simp [Dd.w0])) W0)
  have l0 := fun S => line_q (ds := [.str (st2 e.a e.b), .str e.n, .str e.m, .int e.w]) (xs := e.w0) (.cons (.s _) (.cons (.s _) (.cons (.s _) (.cons (.i (he.hi e.w (by simp))) .nil)))) (by omega) (by simp) S
  have s1 : sIf (tNt (tOf (mA (gq F_is_deed) (mCons (mVar 0) mNil)))) (sRaise "BadValue" "value" (mVar 0)) sNx [some e.d, none, none, none, none, none, none, none, none, none, none, none, none] S = .nx [some e.d, none, none, none, none, none, none, none, none, none, none, none, none] S := by
    repeat (first | walk_at "ev" | simp only [q])
  have s2 : sAs (mVar 0) (gT (gTc (gN 1) (gTc (gN 2) (gTc (gN 3) (gTc (gN 4) (gTc (gN 5) (gTc (gN 6) gT0))))))) [some e.d, none, none, none, none, none, none, none, none, none, none, none, none] S = .nx [some e.d, some (.tup [.int e.a, .int e.b]), some (.str e.n), some (.str e.m), some (.int e.w), some (.tup (e.sl.map Snd.d)), some (.tup (e.vl.map D.int)), none, none, none, none, none, none] S := by
    unfold Dd.d
    repeat (first | walk_at "ev" | simp only [])
  generalize hr : (Option.some e.d) = x0 at s1 s2
  have s3 : sAs (mA lstD (mCons (mA (gq F_line_of) (mCons (mA (gq F_show_stamp) (mCons (mVar 1) mNil)) (mCons (mVar 2) (mCons (mVar 3) (mCons (mVar 4) mNil))))) mNil)) (gN 7) [x0, some (.tup [.int e.a, .int e.b]), some (.str e.n), some (.str e.m), some (.int e.w), some (.tup (e.sl.map Snd.d)), some (.tup (e.vl.map D.int)), none, none, none, none, none, none] S = .nx [x0, some (.tup [.int e.a, .int e.b]), some (.str e.n), some (.str e.m), some (.int e.w), some (.tup (e.sl.map Snd.d)), some (.tup (e.vl.map D.int)), some (.loc S.length), none, none, none, none, none] (S ++ [.lst [.str (Str.join bk e.w0)]]) := by
    repeat (first | walk_at "ev" | simp only [ss, l0])
  generalize hR : [x0, some (D.tup [.int e.a, .int e.b]), some (.str e.n), some (.str e.m), some (.int e.w), some (.tup (e.sl.map Snd.d)), some (.tup (e.vl.map D.int)), some (.loc S.length), none, none, none, none, none] = R at s3
  have hv : ∀ T, mVar 7 R T = .ok (.loc S.length) T := fun T => by subst hR; rfl
  have c4 : ∀ T, mLc (mSrc (mVar 5)) (gT (gTc (gN 8) (gTc (gN 9) (gTc (gN 10) (gTc (gN 11) gT0))))) tT (mA (gq F_line_of) (mCons (mC (.str (PySem.Str.ofString ">"))) (mCons (mVar 8) (mCons (mVar 9) (mCons (mA (gq F_show_stamp) (mCons (mVar 10) mNil)) (mCons (mVar 11) mNil)))))) [8, 9, 10, 11] R T = .ok (.loc T.length) (T ++ [.lst ((e.sl.map Snd.d).map fun d => .str (sdW d))]) := fun T => by
    refine mLc_map (src := .items (e.sl.map Snd.d)) (S0 := T) (e.sl.map Snd.d) (fun d => .str (sdW d)) (by subst hR; rfl) rfl (fun l i => next_of_items _ _ _) (fun d hd l => ?_) (le_line (by rw [List.length_map]; exact he.hn))
    obtain ⟨s, hs, rfl⟩ := List.mem_map.mp hd
    have hi := he.hs s hs
    have t1 := show_stamp_q (hi s.x (by simp)) (hi s.y (by simp)) (Nat.le_trans (len_le (w := s.w) (by simp [Snd.w])) (WS s hs))
    have t2 := fun S => line_q (ds := [.str (PySem.Str.ofString ">"), .int s.l, .int s.k, .str (st2 s.x s.y), .int s.u]) (xs := s.w) (.cons (.s _) (.cons (.i (hi s.l (by simp))) (.cons (.i (hi s.k (by simp))) (.cons (.s _) (.cons (.i (hi s.u (by simp))) .nil))))) (by have := WS s hs; omega) (by simp) S
    refine ⟨[x0, some (.tup [.int e.a, .int e.b]), some (.str e.n), some (.str e.m), some (.int e.w), some (.tup (e.sl.map Snd.d)), some (.tup (e.vl.map D.int)), some (.loc S.length), some (.int s.l), some (.int s.k), some (.tup [.int s.x, .int s.y]), some (.int s.u), none], ?_, ?_⟩
    · subst hR
      unfold Snd.d
      repeat (first | walk_at "ev" | simp only [])
    · rw [sdW_d]
      repeat (first | walk_at "ev" | simp only [t1, t2])
  have c5 : ∀ T, mLc (mSrc (mVar 6)) (gN 12) tT (mA (gq F_line_of) (mCons (mC (.str (PySem.Str.ofString ":"))) (mCons (mVar 12) mNil))) [12] R T = .ok (.loc T.length) (T ++ [.lst ((e.vl.map D.int).map fun d => .str (vdW d))]) := fun T => by
    refine mLc_map (src := .items (e.vl.map D.int)) (S0 := T) (e.vl.map D.int) (fun d => .str (vdW d)) (by subst hR; rfl) rfl (fun l i => next_of_items _ _ _) (fun d hd l => ?_) (le_line (by rw [List.length_map]; exact he.hm))
    obtain ⟨i, hi, rfl⟩ := List.mem_map.mp hd
    have t2 := fun S => line_q (ds := [.str (PySem.Str.ofString ":"), .int i]) (xs := vw i) (.cons (.s _) (.cons (.i (he.hv i hi)) .nil)) (by have := WV i hi; omega) (by simp) S
    refine ⟨[x0, some (.tup [.int e.a, .int e.b]), some (.str e.n), some (.str e.m), some (.int e.w), some (.tup (e.sl.map Snd.d)), some (.tup (e.vl.map D.int)), some (.loc S.length), none, none, none, none, some (.int i)], ?_, ?_⟩
    · subst hR
      rfl
    · show _ = Res.ok (D.str (Str.join bk (vw i))) _
      repeat (first | walk_at "ev" | simp only [t2])
  have hsl := he.hn
  have hvl := he.hm
  have s4 := ext_stmt (hv (S ++ [MO.lst [D.str (Str.join bk e.w0)]])) (at_end S (.lst [.str (Str.join bk e.w0)])) (c4 _) (by simp only [List.length_map, List.length_cons, List.length_nil]; omega)
  have e4 : (S ++ [MO.lst [.str (Str.join bk e.w0)]] ++ [MO.lst ((e.sl.map Snd.d).map fun d => .str (sdW d))]).set S.length (.lst ([.str (Str.join bk e.w0)] ++ (e.sl.map Snd.d).map fun d => .str (sdW d))) = S ++ [.lst ([.str (Str.join bk e.w0)] ++ (e.sl.map Snd.d).map fun d => .str (sdW d)), .lst ((e.sl.map Snd.d).map fun d => .str (sdW d))] := by
    rw [List.append_assoc, List.set_append_right _ _ (Nat.le_refl _), Nat.sub_self]
    rfl
  rw [e4] at s4
  have at4 : (S ++ [MO.lst ([D.str (Str.join bk e.w0)] ++ (e.sl.map Snd.d).map fun d => D.str (sdW d)), .lst ((e.sl.map Snd.d).map fun d => D.str (sdW d))])[S.length]? = some (.lst ([D.str (Str.join bk e.w0)] ++ (e.sl.map Snd.d).map fun d => D.str (sdW d))) := by
    rw [List.getElem?_append_right (Nat.le_refl _), Nat.sub_self]
    rfl
  have s5 := ext_stmt (hv _) at4 (c5 _) (by simp only [List.length_map, List.length_cons, List.length_append, List.length_nil]; omega)
  have e5 : (S ++ [MO.lst ([D.str (Str.join bk e.w0)] ++ (e.sl.map Snd.d).map fun d => D.str (sdW d)), .lst ((e.sl.map Snd.d).map fun d => D.str (sdW d))] ++ [MO.lst ((e.vl.map D.int).map fun d => D.str (vdW d))]).set S.length (.lst ([D.str (Str.join bk e.w0)] ++ ((e.sl.map Snd.d).map fun d => D.str (sdW d)) ++ (e.vl.map D.int).map fun d => D.str (vdW d))) = S ++ [MO.lst ([D.str (Str.join bk e.w0)] ++ ((e.sl.map Snd.d).map fun d => D.str (sdW d)) ++ (e.vl.map D.int).map fun d => D.str (vdW d)), .lst ((e.sl.map Snd.d).map fun d => D.str (sdW d)), .lst ((e.vl.map D.int).map fun d => D.str (vdW d))] := by
    rw [List.append_assoc, List.set_append_right _ _ (Nat.le_refl _), Nat.sub_self]
    rfl
  rw [e5] at s5
  have ew : ([D.str (Str.join bk e.w0)] ++ ((e.sl.map Snd.d).map fun d => D.str (sdW d)) ++ (e.vl.map D.int).map fun d => D.str (vdW d)) = (Str.join bk e.w0 :: (e.sl.map (fun s => Str.join bk s.w) ++ e.vl.map fun i => Str.join bk (vw i))).map D.str := by
    rw [List.map_cons, List.map_append, List.map_map, List.map_map, List.map_map, List.map_map]
    rfl
  rw [ew] at s5
  have j : joinD (.str bk) [.loc S.length] (S ++ [MO.lst ((Str.join bk e.w0 :: (e.sl.map (fun s => Str.join bk s.w) ++ e.vl.map fun i => Str.join bk (vw i))).map D.str), .lst ((e.sl.map Snd.d).map fun d => D.str (sdW d)), .lst ((e.vl.map D.int).map fun d => D.str (vdW d))]) = .ok (.str e.txt) (S ++ [MO.lst ((Str.join bk e.w0 :: (e.sl.map (fun s => Str.join bk s.w) ++ e.vl.map fun i => Str.join bk (vw i))).map D.str), .lst ((e.sl.map Snd.d).map fun d => D.str (sdW d)), .lst ((e.vl.map D.int).map fun d => D.str (vdW d))]) := by
    rw [← e.flat]
    refine join_q (by rw [List.getElem?_append_right (Nat.le_refl _), Nat.sub_self]; rfl) ?_
    have h1 := wsum_jn e.ws
    have h2 : e.ws.map (Str.join bk) = Str.join bk e.w0 :: (e.sl.map (fun s => Str.join bk s.w) ++ e.vl.map fun i => Str.join bk (vw i)) := by
      unfold Dd.ws
      rw [List.map_cons, List.map_append, List.map_map, List.map_map]
      rfl
    rw [h2] at h1
    have h3 : e.ws.length = 1 + (e.sl.length + e.vl.length) := by
      unfold Dd.ws
      rw [List.length_cons, List.length_append, List.length_map, List.length_map]
      omega
    have := he.hl
    omega
  refine gq_new (l := [MO.lst ((Str.join bk e.w0 :: (e.sl.map (fun s => Str.join bk s.w) ++ e.vl.map fun i => Str.join bk (vw i))).map D.str), .lst ((e.sl.map Snd.d).map fun d => D.str (sdW d)), .lst ((e.vl.map D.int).map fun d => D.str (vdW d))]) ?_ rfl
  unfold F_show_deed
  rw [fnM_ap _ _ _ _ _ (by rfl)]
  subst hr
  refine (congrArg fK (seq1 s1 (seq1 s2 (seq1 s3 (seq1 s4 (seq1 s5 (o := .rt (.str e.txt) _) ?_)))))).trans rfl
  have : mSM joinD (mC (.str (PySem.Str.ofString " "))) (mVar 7) R (S ++ [MO.lst ((Str.join bk e.w0 :: (e.sl.map (fun s => Str.join bk s.w) ++ e.vl.map fun i => Str.join bk (vw i))).map D.str), .lst ((e.sl.map Snd.d).map fun d => D.str (sdW d)), .lst ((e.vl.map D.int).map fun d => D.str (vdW d))]) = .ok (.str e.txt) (S ++ [MO.lst ((Str.join bk e.w0 :: (e.sl.map (fun s => Str.join bk s.w) ++ e.vl.map fun i => Str.join bk (vw i))).map D.str), .lst ((e.sl.map Snd.d).map fun d => D.str (sdW d)), .lst ((e.vl.map D.int).map fun d => D.str (vdW d))]) := by
    unfold mSM
    rw [bnd_ap, mC_ap, bK_ok]
    show bnd _ _ _ = _
    rw [bnd_ap, hv, bK_ok]
    exact j
  rw [sRet_ap, this]
  rfl
end Lw
namespace Lw
open PySem PySem.Spec PyProof.Rows L2 Fa
local macro_rules | `(tactic| walk_at "ev") => `(tactic| simp only [bK_ok, bK_err, bK_bad, bnd_ap, ret_ap, fail_ap, mVar_ap, vK_some, mC_ap, m1_ap, m2_ap, k2_ap, mNil_ap, mCons_ap, kCons_ap, kCon_ap, mA_ap, mIf_ap, kIf_t, kIf_f, tOf_ap, isBl_ap, tNt_ap, kNt_ap, tAn_ap, kAn_t, kAn_f, tOr_ap, kOr_t, kOr_f, mNot_ap, kNot_ap, mAnd_ap, kAnd_t, kAnd_f, mOr_ap, kOrV_t, kOrV_f,
  sSeq_ap, sK_nx, sK_rt, sK_bk, sK_ct, sK_ex, sK_bad, oK_ok, oK_err, oK_bad, kNx_ap, kRt_ap, sEx_ap, sRet_ap, sRetN_ap, sNx_ap, sBad_ap, sIf_ap, kIfS_t, kIfS_f, gN_ap, gT_ap, gT_tt, gTc_ap, gT0_ap, sAs_ap, kAs_ap, kAs2_ok, sPar_ap, kPar_ap, gSubD_ap, kSub1_ap, kSub2_ap, kSub3_ap, fK_nx, fK_rt, fK_ex, mLM_ap, mRng1_ap, mRng2_ap, mSrc_ap, src_t, src_r, src_s, src_k,
  mChain_ap, kCh1_ap, kCh2_ap, kCh3_t, kCh3_f, mSl_ap, kSl1_ap, kSl2_ap, mSlT_ap, kTl1_ap, kTl2_ap, mP0_ap, mP_ap, intO_ap, sl_t, dfl_ap, mTM_ap, kTM_k, kTM_t, mMeth_ap, kMe1_ap, kMe2_ap, kMe3_ap, gFld_ap, kF1_ap, gSubA_ap, kSA1_ap, kSA2_ap, sPar3_ap, kPar3_ap, mkD_ap, mkR_ok, dct0D_ap, mDisp_ap, mPairs_nil, mPairs_cons, kPr1_ap, kPr2_ap, kPr3_ap, tuple_t, list_t, mZip_ap, zip_tt,
  wipeE, nc0, nc1, nc2, nc3, nc4, nc5, nc6, nc7, nc8, nc9, nc10, nc11, nc12, nc13, nc14, nc15, Int.reduceEq, Int.reduceLE, Int.reduceLT, Int.reduceSub, Int.reduceAdd,
  fnM_ap, tupD_ap, lstD_ap, le_line, Nat.reduceLeDiff, eq_self,
  add_ii, sub_ii, neg_i, lt_ii, le_ii, gt_ii, ge_ii, isN_n, isN_i, isN_t, isN_s, isN_b, isN_l, abs_i, max_ii, min_ii, int_i, int_b, len_t, len_r, eq_ii, eq_bb, eq_ss,
  List.map_cons, List.map_nil, List.cons_append, List.nil_append, List.append_nil, List.replicate_succ, List.replicate_zero, List.length_cons, List.length_nil, Nat.reduceSub, Nat.reduceAdd, Nat.sub_self, Nat.zero_add,
  List.getElem?_cons_succ, List.getElem?_cons_zero, List.set_cons_succ, List.set_cons_zero, Bool.not_true, Bool.not_false, decide_true, decide_false, if_true, if_false, reduceIte, Bool.false_eq_true])
local macro_rules | `(tactic| walk_at "ex") => `(tactic| simp only [bK_ok, bK_err, bK_bad, bnd_ap, ret_ap, fail_ap, mVar_ap, vK_some, mC_ap, m1_ap, m2_ap, k2_ap, mNil_ap, mCons_ap, kCons_ap, kCon_ap, mA_ap, mIf_ap, kIf_t, kIf_f, tOf_ap, isBl_ap, tNt_ap, kNt_ap, kAn_t, kAn_f, tOr_ap, kOr_t, kOr_f, mNot_ap, kNot_ap, mAnd_ap, kAnd_t, kAnd_f, mOr_ap, kOrV_t, kOrV_f,
  sSeq_ap, sK_nx, sK_rt, sK_bk, sK_ct, sK_ex, sK_bad, oK_ok, oK_err, oK_bad, kNx_ap, kRt_ap, sEx_ap, sRet_ap, sRetN_ap, sNx_ap, sBad_ap, sIf_ap, kIfS_t, kIfS_f, gN_ap, gT_ap, gT_tt, gTc_ap, gT0_ap, sAs_ap, kAs_ap, kAs2_ok, sPar_ap, kPar_ap, gSubD_ap, kSub1_ap, kSub2_ap, kSub3_ap, fK_nx, fK_rt, fK_ex, mLM_ap, mRng1_ap, mRng2_ap, mSrc_ap, src_t, src_r, src_s, src_k,
  mChain_ap, kCh1_ap, kCh2_ap, kCh3_t, kCh3_f, mSl_ap, kSl1_ap, kSl2_ap, mSlT_ap, kTl1_ap, kTl2_ap, mP0_ap, mP_ap, intO_ap, sl_t, dfl_ap, mTM_ap, kTM_k, kTM_t, mMeth_ap, kMe1_ap, kMe2_ap, kMe3_ap, gFld_ap, kF1_ap, gSubA_ap, kSA1_ap, kSA2_ap, sPar3_ap, kPar3_ap, mkD_ap, mkR_ok, dct0D_ap, mDisp_ap, mPairs_nil, mPairs_cons, kPr1_ap, kPr2_ap, kPr3_ap, tuple_t, list_t, mZip_ap, zip_tt,
  wipeE, nc0, nc1, nc2, nc3, nc4, nc5, nc6, nc7, nc8, nc9, nc10, nc11, nc12, nc13, nc14, nc15, Int.reduceEq, Int.reduceLE, Int.reduceLT, Int.reduceSub, Int.reduceAdd,
  fnM_ap, tupD_ap, lstD_ap, le_line, Nat.reduceLeDiff, eq_self,
  add_ii, sub_ii, neg_i, lt_ii, le_ii, gt_ii, ge_ii, isN_n, isN_i, isN_t, isN_s, isN_b, isN_l, abs_i, max_ii, min_ii, int_i, int_b, len_t, len_r, eq_ii, eq_bb, eq_ss,
  List.map_cons, List.map_nil, List.cons_append, List.nil_append, List.append_nil, List.replicate_succ, List.replicate_zero, List.length_cons, List.length_nil, Nat.reduceSub, Nat.reduceAdd, Nat.sub_self, Nat.zero_add,
  List.getElem?_cons_succ, List.getElem?_cons_zero, List.set_cons_succ, List.set_cons_zero, Bool.not_true, Bool.not_false, decide_true, decide_false, if_true, if_false, reduceIte, Bool.false_eq_true])
/-! ### k90: the law's own writing -/
theorem add_s {a b : Str} (h : a.length + b.length ≤ 2000000) (S : Sto) : addD (.str a) (.str b) S = .ok (.str (a ++ b)) S := by
  show (if a.length + b.length ≤ sizeLine then ret (D.str (a ++ b)) else fail) S = _
  rw [if_pos (by rw [sizeLine_eq]; omega)]
  rfl
theorem slen (a b : Str) : (a ++ b).length = a.length + b.length := by
  show (a.cps ++ b.cps).size = _
  rw [Array.size_append]
  rfl
theorem st2_len (x y : Int) : (st2 x y).length = (ts x).length + 1 + (ts y).length := by
  unfold st2
  rw [slen, slen]
  rfl
/-- str(m[0]) + '.' + str(m[1]) -/
theorem mom_q {x y : Int} (hx : x.natAbs.log2 < 1920) (hy : y.natAbs.log2 < 1920) (hl : (st2 x y).length ≤ 1000000) {m : Fa.Env → M D} {r : Fa.Env} {S : Sto} (hm : m r S = .ok (.tup [.int x, .int y]) S) :
    m2 addD (m2 addD (mA strD (mCons (m2 ixD m (mC (.int 0))) mNil)) (mC (.str (PySem.Str.ofString ".")))) (mA strD (mCons (m2 ixD m (mC (.int 1))) mNil)) r S = .ok (.str (st2 x y)) S := by
  have i0 : ixD (.tup [.int x, .int y]) (.int 0) S = .ok (.int x) S := ix_t _ rfl
  have i1 : ixD (.tup [.int x, .int y]) (.int 1) S = .ok (.int y) S := ix_t _ rfl
  have f0 := str_i hx S
  have f1 := str_i hy S
  have hL := st2_len x y
  have a1 : addD (.str (ts x)) (.str (PySem.Str.ofString ".")) S = .ok (.str (ts x ++ dot)) S := add_s (by have : (PySem.Str.ofString ".").length = 1 := rfl; omega) S
  have a2 : addD (.str (ts x ++ dot)) (.str (ts y)) S = .ok (.str (st2 x y)) S := add_s (by rw [slen]; have : dot.length = 1 := rfl; omega) S
  repeat (first | walk_at "ev" | simp only [hm, i0, i1, f0, f1, a1, a2])
theorem next_get (ds : List D) (i : Nat) (S : Sto) : nextD (.items ds) i S = some (if i < ds.length then some (ds.getD i .non) else none) := by
  rw [next_of_items]
  congr 1
  by_cases h : i < ds.length
  · rw [if_pos h, List.getD_eq_getElem?_getD, List.getElem?_eq_getElem h]
    rfl
  · rw [if_neg h, List.getElem?_eq_none (by omega)]
theorem written_q {e : Dd} (he : e.ok) {S : Sto} : gq F_l_written [e.d] S = .ok (.str e.txt) S := by
  have W0 : wsum e.w0 ≤ 1000000 := Nat.le_trans (wsum_le (L := e.ws) (by simp [Dd.ws])) he.hl
  have WS : ∀ s ∈ e.sl, wsum s.w ≤ 1000000 := fun s hs => Nat.le_trans (wsum_le (L := e.ws) (by simp only [Dd.ws, List.mem_cons, List.mem_append, List.mem_map]; exact .inr (.inl ⟨s, hs, rfl⟩))) he.hl
  have hsl := he.hn
  have hvl := he.hm
  have i0 : ∀ S, ixD e.d (.int 0) S = .ok (.tup [.int e.a, .int e.b]) S := fun S => ix_t S rfl
  have i1 : ∀ S, ixD e.d (.int 1) S = .ok (.str e.n) S := fun S => ix_t S rfl
  have i2 : ∀ S, ixD e.d (.int 2) S = .ok (.str e.m) S := fun S => ix_t S rfl
  have i3 : ∀ S, ixD e.d (.int 3) S = .ok (.int e.w) S := fun S => ix_t S rfl
  have i4 : ∀ S, ixD e.d (.int 4) S = .ok (.tup (e.sl.map Snd.d)) S := fun S => ix_t S rfl
  have i5 : ∀ S, ixD e.d (.int 5) S = .ok (.tup (e.vl.map D.int)) S := fun S => ix_t S rfl
  have w3 := str_i (he.hi e.w (by simp)) S
  have m0 := mom_q (he.hi e.a (by simp)) (he.hi e.b (by simp)) (Nat.le_trans (len_le (w := e.w0) (by simp [Dd.w0])) W0) (m := m2 ixD (mVar 0) (mC (.int 0))) (r := [some e.d, none, none, none, none, none]) (S := S) (by repeat (first | walk_at "ev" | simp only [i0]))
  have s1 : sAs (mA lstD (mCons (m2 addD (m2 addD (mA strD (mCons (m2 ixD (m2 ixD (mVar 0) (mC (.int 0))) (mC (.int 0))) mNil)) (mC (.str (PySem.Str.ofString ".")))) (mA strD (mCons (m2 ixD (m2 ixD (mVar 0) (mC (.int 0))) (mC (.int 1))) mNil))) (mCons (m2 ixD (mVar 0) (mC (.int 1))) (mCons (m2 ixD (mVar 0) (mC (.int 2))) (mCons (mA strD (mCons (m2 ixD (mVar 0) (mC (.int 3))) mNil)) mNil))))) (gN 1) [some e.d, none, none, none, none, none] S = .nx [some e.d, some (.loc S.length), none, none, none, none] (S ++ [.lst (e.w0.map D.str)]) := by
    have : ∀ ee : Fa.Env → M D, ee [some e.d, none, none, none, none, none] S = .ok (.str (st2 e.a e.b)) S → sAs (mA lstD (mCons ee (mCons (m2 ixD (mVar 0) (mC (.int 1))) (mCons (m2 ixD (mVar 0) (mC (.int 2))) (mCons (mA strD (mCons (m2 ixD (mVar 0) (mC (.int 3))) mNil)) mNil))))) (gN 1) [some e.d, none, none, none, none, none] S = .nx [some e.d, some (.loc S.length), none, none, none, none] (S ++ [.lst (e.w0.map D.str)]) := fun ee hee => by
      repeat (first | simp only [hee] | walk_at "ev" | simp only [i1, i2, i3, w3, Dd.w0])
    exact this _ m0
  obtain ⟨r2, T2, f2, n2, x2, x3, x4, x5, l2, rfl, hT2, a2⟩ := sFor_inv (m := mSrc (m2 ixD (mVar 0) (mC (.int 4)))) (src := .items (e.sl.map Snd.d)) (e.sl.map Snd.d).length (fun i => (e.sl.map Snd.d).getD i .non) (g := gT (gTc (gN 2) (gTc (gN 3) (gTc (gN 4) (gTc (gN 5) gT0)))))
    (b := sAs (m2 addD (mVar 1) (mA lstD (mCons (mC (.str (PySem.Str.ofString ">"))) (mCons (mA strD (mCons (mVar 2) mNil)) (mCons (mA strD (mCons (mVar 3) mNil)) (mCons (m2 addD (m2 addD (mA strD (mCons (m2 ixD (mVar 4) (mC (.int 0))) mNil)) (mC (.str (PySem.Str.ofString ".")))) (mA strD (mCons (m2 ixD (mVar 4) (mC (.int 1))) mNil))) (mCons (mA strD (mCons (mVar 5) mNil)) mNil))))))) (gN 1))
    (fun i r T => ∃ n x2 x3 x4 x5 l, r = [some e.d, some (.loc n), x2, x3, x4, x5] ∧ T = S ++ l ∧ T[n]? = some (.lst ((e.w0 ++ ((e.sl.take i).map Snd.w).flatten).map D.str)))
    (r := [some e.d, some (.loc S.length), none, none, none, none]) (S := S ++ [.lst (e.w0.map D.str)]) (by repeat (first | walk_at "ev" | simp only [i4])) rfl (fun i r T _ => next_get _ _ _)
    (fun i r T hi hI => by
      obtain ⟨n, x2, x3, x4, x5, l, rfl, hT, hn⟩ := hI
      rw [List.length_map] at hi
      have hs : e.sl[i]? = some e.sl[i] := List.getElem?_eq_getElem hi
      generalize e.sl[i] = s at hs
      have hm : s ∈ e.sl := List.mem_of_getElem? hs
      have hg : (e.sl.map Snd.d).getD i .non = s.d := by rw [List.getD_eq_getElem?_getD, List.getElem?_map, hs]; rfl
      have hI := he.hs s hm
      have t1 := fun T => str_i (hI s.l (by simp)) T
      have t2 := fun T => str_i (hI s.k (by simp)) T
      have t3 := fun T => str_i (hI s.u (by simp)) T
      have t4 := mom_q (hI s.x (by simp)) (hI s.y (by simp)) (Nat.le_trans (len_le (w := s.w) (by simp [Snd.w])) (WS s hm)) (m := mVar 4) (r := [some e.d, some (.loc n), some (.int s.l), some (.int s.k), some (.tup [.int s.x, .int s.y]), some (.int s.u)]) (S := T) rfl
      have hw : (e.w0 ++ ((e.sl.take i).map Snd.w).flatten).length ≤ 6000 := by
        have : ∀ L : List Snd, ((L.map Snd.w).flatten).length = 5 * L.length := fun L => by
          induction L with
          | nil => rfl
          | cons s L ih =>
            rw [List.map_cons, List.flatten_cons, List.length_append, ih, List.length_cons]
            show 5 + _ = _
            omega
        rw [List.length_append, this, List.length_take]
        show 4 + _ ≤ _
        omega
      have ad := add_ll (S := T ++ [.lst (s.w.map D.str)]) (i := n) (j := T.length) (at_old hn) (at_end T (.lst (s.w.map D.str))) (by rw [sizeLine_eq, List.length_map, List.length_map]; have : s.w.length = 5 := rfl; omega)
      have b : ∀ ee : Fa.Env → M D, ee [some e.d, some (.loc n), some (.int s.l), some (.int s.k), some (.tup [.int s.x, .int s.y]), some (.int s.u)] T = .ok (.str (st2 s.x s.y)) T → sAs (m2 addD (mVar 1) (mA lstD (mCons (mC (.str (PySem.Str.ofString ">"))) (mCons (mA strD (mCons (mVar 2) mNil)) (mCons (mA strD (mCons (mVar 3) mNil)) (mCons ee (mCons (mA strD (mCons (mVar 5) mNil)) mNil))))))) (gN 1) [some e.d, some (.loc n), some (.int s.l), some (.int s.k), some (.tup [.int s.x, .int s.y]), some (.int s.u)] T = .nx [some e.d, some (.loc (T ++ [MO.lst (s.w.map D.str)]).length), some (.int s.l), some (.int s.k), some (.tup [.int s.x, .int s.y]), some (.int s.u)] (T ++ [.lst (s.w.map D.str)] ++ [.lst ((e.w0 ++ ((e.sl.take i).map Snd.w).flatten).map D.str ++ s.w.map D.str)]) := fun ee hee => by
        have li : mA lstD (mCons (mC (.str (PySem.Str.ofString ">"))) (mCons (mA strD (mCons (mVar 2) mNil)) (mCons (mA strD (mCons (mVar 3) mNil)) (mCons ee (mCons (mA strD (mCons (mVar 5) mNil)) mNil))))) [some e.d, some (.loc n), some (.int s.l), some (.int s.k), some (.tup [.int s.x, .int s.y]), some (.int s.u)] T = .ok (.loc T.length) (T ++ [.lst (s.w.map D.str)]) := by
          repeat (first | simp only [hee] | walk_at "ev" | simp only [t1, t2, t3, Snd.w])
        have v1 : mVar 1 [some e.d, some (.loc n), some (.int s.l), some (.int s.k), some (.tup [.int s.x, .int s.y]), some (.int s.u)] T = .ok (.loc n) T := rfl
        rw [sAs_ap, m2_ap, v1, bK_ok, k2_ap, li, bK_ok, ad]
        rfl
      refine ⟨[some e.d, some (.loc n), some (.int s.l), some (.int s.k), some (.tup [.int s.x, .int s.y]), some (.int s.u)], T, _, _, ?_, .inl (b _ t4), (T ++ [MO.lst (s.w.map D.str)]).length, some (.int s.l), some (.int s.k), some (.tup [.int s.x, .int s.y]), some (.int s.u), l ++ [.lst (s.w.map D.str), .lst ((e.w0 ++ ((e.sl.take i).map Snd.w).flatten).map D.str ++ s.w.map D.str)], rfl, ?_, ?_⟩
      · rw [hg]
        unfold Snd.d
        repeat (first | walk_at "ev" | simp only [])
      · rw [hT]
        simp
      · rw [at_end, List.take_succ, hs, ← List.map_append]
        simp) ⟨S.length, none, none, none, none, [.lst (e.w0.map D.str)], rfl, rfl, by rw [at_end]; simp⟩
  rw [List.length_map, List.take_of_length_le (Nat.le_refl _)] at a2
  obtain ⟨r3, T3, f3, n3, y2, y3, y4, y5, l3, rfl, hT3, a3⟩ := sFor_inv (m := mSrc (m2 ixD (mVar 0) (mC (.int 5)))) (src := .items (e.vl.map D.int)) (e.vl.map D.int).length (fun i => (e.vl.map D.int).getD i .non) (g := gN 5)
    (b := sAs (m2 addD (mVar 1) (mA lstD (mCons (mC (.str (PySem.Str.ofString ":"))) (mCons (mA strD (mCons (mVar 5) mNil)) mNil)))) (gN 1))
    (fun i r T => ∃ n x2 x3 x4 x5 l, r = [some e.d, some (.loc n), x2, x3, x4, x5] ∧ T = S ++ l ∧ T[n]? = some (.lst ((e.w0 ++ (e.sl.map Snd.w).flatten ++ ((e.vl.take i).map vw).flatten).map D.str)))
    (r := [some e.d, some (.loc n2), x2, x3, x4, x5]) (S := T2) (by repeat (first | walk_at "ev" | simp only [i5])) rfl (fun i r T _ => next_get _ _ _)
    (fun i r T hi hI => by
      obtain ⟨n, x2, x3, x4, x5, l, rfl, hT, hn⟩ := hI
      rw [List.length_map] at hi
      have hs : e.vl[i]? = some e.vl[i] := List.getElem?_eq_getElem hi
      generalize e.vl[i] = s at hs
      have hm : s ∈ e.vl := List.mem_of_getElem? hs
      have hg : (e.vl.map D.int).getD i .non = .int s := by rw [List.getD_eq_getElem?_getD, List.getElem?_map, hs]; rfl
      have t1 := fun T => str_i (he.hv s hm) T
      have hw : (e.w0 ++ (e.sl.map Snd.w).flatten ++ ((e.vl.take i).map vw).flatten).length ≤ 9000 := by
        have f1 : ∀ L : List Snd, ((L.map Snd.w).flatten).length = 5 * L.length := fun L => by
          induction L with
          | nil => rfl
          | cons s L ih =>
            rw [List.map_cons, List.flatten_cons, List.length_append, ih, List.length_cons]
            show 5 + _ = _
            omega
        have f2 : ∀ L : List Int, ((L.map vw).flatten).length = 2 * L.length := fun L => by
          induction L with
          | nil => rfl
          | cons s L ih =>
            rw [List.map_cons, List.flatten_cons, List.length_append, ih, List.length_cons]
            show 2 + _ = _
            omega
        rw [List.length_append, List.length_append, f1, f2, List.length_take]
        show 4 + _ + _ ≤ _
        omega
      have ad := add_ll (S := T ++ [.lst ((vw s).map D.str)]) (i := n) (j := T.length) (at_old hn) (at_end T (.lst ((vw s).map D.str))) (by rw [sizeLine_eq, List.length_map, List.length_map]; have : (vw s).length = 2 := rfl; omega)
      have b : sAs (m2 addD (mVar 1) (mA lstD (mCons (mC (.str (PySem.Str.ofString ":"))) (mCons (mA strD (mCons (mVar 5) mNil)) mNil)))) (gN 1) [some e.d, some (.loc n), x2, x3, x4, some (.int s)] T = .nx [some e.d, some (.loc (T ++ [MO.lst ((vw s).map D.str)]).length), x2, x3, x4, some (.int s)] (T ++ [.lst ((vw s).map D.str)] ++ [.lst ((e.w0 ++ (e.sl.map Snd.w).flatten ++ ((e.vl.take i).map vw).flatten).map D.str ++ (vw s).map D.str)]) := by
        have li : mA lstD (mCons (mC (.str (PySem.Str.ofString ":"))) (mCons (mA strD (mCons (mVar 5) mNil)) mNil)) [some e.d, some (.loc n), x2, x3, x4, some (.int s)] T = .ok (.loc T.length) (T ++ [.lst ((vw s).map D.str)]) := by
          repeat (first | walk_at "ev" | simp only [t1, vw])
        have v1 : mVar 1 [some e.d, some (.loc n), x2, x3, x4, some (.int s)] T = .ok (.loc n) T := rfl
        rw [sAs_ap, m2_ap, v1, bK_ok, k2_ap, li, bK_ok, ad]
        rfl
      refine ⟨[some e.d, some (.loc n), x2, x3, x4, some (.int s)], T, _, _, ?_, .inl b, (T ++ [MO.lst ((vw s).map D.str)]).length, x2, x3, x4, some (.int s), l ++ [.lst ((vw s).map D.str), .lst ((e.w0 ++ (e.sl.map Snd.w).flatten ++ ((e.vl.take i).map vw).flatten).map D.str ++ (vw s).map D.str)], rfl, ?_, ?_⟩
      · rw [hg]
        rfl
      · rw [hT]
        simp
      · rw [at_end, List.take_succ, hs, ← List.map_append]
        simp) ⟨n2, x2, x3, x4, x5, l2, rfl, hT2, by rw [a2]; simp⟩
  rw [List.length_map, List.take_of_length_le (Nat.le_refl _)] at a3
  have ew : e.w0 ++ (e.sl.map Snd.w).flatten ++ (e.vl.map vw).flatten = e.ws.flatten := by
    unfold Dd.ws
    rw [List.flatten_cons, List.flatten_append, List.append_assoc]
  rw [ew] at a3
  have j := join_q a3 (Nat.le_trans he.hl (by decide))
  subst hT3
  refine gq_new (l := l3) ?_ rfl
  unfold F_l_written
  rw [fnM_ap _ _ _ _ _ (by rfl)]
  refine (congrArg fK (seq1 s1 (seq1 f2 (seq1 f3 (o := .rt (.str e.txt) (S ++ l3)) ?_)))).trans rfl
  have : mSM joinD (mC (.str (PySem.Str.ofString " "))) (mVar 1) [some e.d, some (.loc n3), y2, y3, y4, y5] (S ++ l3) = .ok (.str e.txt) (S ++ l3) := by
    unfold mSM
    rw [bnd_ap, mC_ap, bK_ok]
    exact j
  rw [sRet_ap, this]
  rfl
end Lw
namespace Lw
open PySem PySem.Spec PyProof.Rows L2 Fa
local macro_rules | `(tactic| walk_at "ev") => `(tactic| simp only [bK_ok, bK_err, bK_bad, bnd_ap, ret_ap, fail_ap, mVar_ap, vK_some, mC_ap, m1_ap, m2_ap, k2_ap, mNil_ap, mCons_ap, kCons_ap, kCon_ap, mA_ap, mIf_ap, kIf_t, kIf_f, tOf_ap, isBl_ap, tNt_ap, kNt_ap, tAn_ap, kAn_t, kAn_f, tOr_ap, kOr_t, kOr_f, mNot_ap, kNot_ap, mAnd_ap, kAnd_t, kAnd_f, mOr_ap, kOrV_t, kOrV_f,
  sSeq_ap, sK_nx, sK_rt, sK_bk, sK_ct, sK_ex, sK_bad, oK_ok, oK_err, oK_bad, kNx_ap, kRt_ap, sEx_ap, sRet_ap, sRetN_ap, sNx_ap, sBad_ap, sIf_ap, kIfS_t, kIfS_f, gN_ap, gT_ap, gT_tt, gTc_ap, gT0_ap, sAs_ap, kAs_ap, kAs2_ok, sPar_ap, kPar_ap, gSubD_ap, kSub1_ap, kSub2_ap, kSub3_ap, fK_nx, fK_rt, fK_ex, mLM_ap, mRng1_ap, mRng2_ap, mSrc_ap, src_t, src_r, src_s, src_k,
  mChain_ap, kCh1_ap, kCh2_ap, kCh3_t, kCh3_f, mSl_ap, kSl1_ap, kSl2_ap, mSlT_ap, kTl1_ap, kTl2_ap, mP0_ap, mP_ap, intO_ap, sl_t, dfl_ap, mTM_ap, kTM_k, kTM_t, mMeth_ap, kMe1_ap, kMe2_ap, kMe3_ap, gFld_ap, kF1_ap, gSubA_ap, kSA1_ap, kSA2_ap, sPar3_ap, kPar3_ap, mkD_ap, mkR_ok, dct0D_ap, mDisp_ap, mPairs_nil, mPairs_cons, kPr1_ap, kPr2_ap, kPr3_ap, tuple_t, list_t, mZip_ap, zip_tt,
  wipeE, nc0, nc1, nc2, nc3, nc4, nc5, nc6, nc7, nc8, nc9, nc10, nc11, nc12, nc13, nc14, nc15, Int.reduceEq, Int.reduceLE, Int.reduceLT, Int.reduceSub, Int.reduceAdd,
  fnM_ap, tupD_ap, lstD_ap, le_line, Nat.reduceLeDiff, eq_self,
  add_ii, sub_ii, neg_i, lt_ii, le_ii, gt_ii, ge_ii, isN_n, isN_i, isN_t, isN_s, isN_b, isN_l, abs_i, max_ii, min_ii, int_i, int_b, len_t, len_r, eq_ii, eq_bb, eq_ss,
  List.map_cons, List.map_nil, List.cons_append, List.nil_append, List.append_nil, List.replicate_succ, List.replicate_zero, List.length_cons, List.length_nil, Nat.reduceSub, Nat.reduceAdd, Nat.sub_self, Nat.zero_add,
  List.getElem?_cons_succ, List.getElem?_cons_zero, List.set_cons_succ, List.set_cons_zero, Bool.not_true, Bool.not_false, decide_true, decide_false, if_true, if_false, reduceIte, Bool.false_eq_true])
local macro_rules | `(tactic| walk_at "ex") => `(tactic| simp only [bK_ok, bK_err, bK_bad, bnd_ap, ret_ap, fail_ap, mVar_ap, vK_some, mC_ap, m1_ap, m2_ap, k2_ap, mNil_ap, mCons_ap, kCons_ap, kCon_ap, mA_ap, mIf_ap, kIf_t, kIf_f, tOf_ap, isBl_ap, tNt_ap, kNt_ap, kAn_t, kAn_f, tOr_ap, kOr_t, kOr_f, mNot_ap, kNot_ap, mAnd_ap, kAnd_t, kAnd_f, mOr_ap, kOrV_t, kOrV_f,
  sSeq_ap, sK_nx, sK_rt, sK_bk, sK_ct, sK_ex, sK_bad, oK_ok, oK_err, oK_bad, kNx_ap, kRt_ap, sEx_ap, sRet_ap, sRetN_ap, sNx_ap, sBad_ap, sIf_ap, kIfS_t, kIfS_f, gN_ap, gT_ap, gT_tt, gTc_ap, gT0_ap, sAs_ap, kAs_ap, kAs2_ok, sPar_ap, kPar_ap, gSubD_ap, kSub1_ap, kSub2_ap, kSub3_ap, fK_nx, fK_rt, fK_ex, mLM_ap, mRng1_ap, mRng2_ap, mSrc_ap, src_t, src_r, src_s, src_k,
  mChain_ap, kCh1_ap, kCh2_ap, kCh3_t, kCh3_f, mSl_ap, kSl1_ap, kSl2_ap, mSlT_ap, kTl1_ap, kTl2_ap, mP0_ap, mP_ap, intO_ap, sl_t, dfl_ap, mTM_ap, kTM_k, kTM_t, mMeth_ap, kMe1_ap, kMe2_ap, kMe3_ap, gFld_ap, kF1_ap, gSubA_ap, kSA1_ap, kSA2_ap, sPar3_ap, kPar3_ap, mkD_ap, mkR_ok, dct0D_ap, mDisp_ap, mPairs_nil, mPairs_cons, kPr1_ap, kPr2_ap, kPr3_ap, tuple_t, list_t, mZip_ap, zip_tt,
  wipeE, nc0, nc1, nc2, nc3, nc4, nc5, nc6, nc7, nc8, nc9, nc10, nc11, nc12, nc13, nc14, nc15, Int.reduceEq, Int.reduceLE, Int.reduceLT, Int.reduceSub, Int.reduceAdd,
  fnM_ap, tupD_ap, lstD_ap, le_line, Nat.reduceLeDiff, eq_self,
  add_ii, sub_ii, neg_i, lt_ii, le_ii, gt_ii, ge_ii, isN_n, isN_i, isN_t, isN_s, isN_b, isN_l, abs_i, max_ii, min_ii, int_i, int_b, len_t, len_r, eq_ii, eq_bb, eq_ss,
  List.map_cons, List.map_nil, List.cons_append, List.nil_append, List.append_nil, List.replicate_succ, List.replicate_zero, List.length_cons, List.length_nil, Nat.reduceSub, Nat.reduceAdd, Nat.sub_self, Nat.zero_add,
  List.getElem?_cons_succ, List.getElem?_cons_zero, List.set_cons_succ, List.set_cons_zero, Bool.not_true, Bool.not_false, decide_true, decide_false, if_true, if_false, reduceIte, Bool.false_eq_true])
/-! ### k90: a value that is a deed -/
theorem strG_of (x : String) : strG (PySem.Str.ofString x) = true := by
  unfold strG
  refine List.all_eq_true.mpr fun c hc => decide_eq_true ?_
  rw [PySem.Str.ofString_eq_toList] at hc
  have hc : c ∈ x.toList.map Char.toNat := hc
  obtain ⟨d, _, rfl⟩ := List.mem_map.mp hc
  have : d.val.toNat < 4294967296 := d.val.toNat_lt
  show d.val.toNat < 16 ^ 8
  omega
theorem strG_app {a b : Str} (ha : strG a = true) (hb : strG b = true) : strG (a ++ b) = true := by
  unfold strG at *
  show ((a.cps ++ b.cps).toList.all _) = true
  rw [Array.toList_append, List.all_append, ha, hb]
  rfl
theorem strG_join : ∀ {l : List Str}, (∀ x ∈ l, strG x = true) → strG (Str.join bk l) = true
  | [], _ => rfl
  | [x], h => h x (by simp)
  | x :: y :: r, h => by
    rw [jn_cons bk x (by simp)]
    exact strG_app (h x (by simp)) (strG_app (strG_of " ") (strG_join fun z hz => h z (List.mem_cons_of_mem _ hz)))
theorem strG_name {z : Str} (h : nameS z = true) : strG z = true := by
  unfold nameS at h
  rw [Bool.and_eq_true, List.all_eq_true] at h
  unfold strG
  refine List.all_eq_true.mpr fun c hc => decide_eq_true ?_
  have h2 := of_decide_eq_true (h.2 c hc)
  have : letC.all fun c => decide (c < 16 ^ 8) := by decide +kernel
  exact of_decide_eq_true (List.all_eq_true.mp this c h2)
theorem Dd.txtG {e : Dd} (hn : nameS e.n = true) (hm : nameS e.m = true) : strG e.txt = true := by
  unfold Dd.txt
  refine strG_join fun x hx => ?_
  have hst : ∀ x y : Int, strG (st2 x y) = true := fun x y => strG_app (strG_app (strG_of _) (strG_of _)) (strG_of _)
  obtain ⟨w, hw, hx⟩ := List.mem_flatten.mp hx
  unfold Dd.ws at hw
  rcases List.mem_cons.mp hw with rfl | hw
  · simp only [Dd.w0, List.mem_cons, List.not_mem_nil, or_false] at hx
    rcases hx with rfl | rfl | rfl | rfl
    · exact hst _ _
    · exact strG_name hn
    · exact strG_name hm
    · exact strG_of _
  · rcases List.mem_append.mp hw with hw | hw
    · obtain ⟨s, _, rfl⟩ := List.mem_map.mp hw
      simp only [Snd.w, List.mem_cons, List.not_mem_nil, or_false] at hx
      rcases hx with rfl | rfl | rfl | rfl | rfl <;> first | exact strG_of _ | exact hst _ _
    · obtain ⟨s, _, rfl⟩ := List.mem_map.mp hw
      simp only [vw, List.mem_cons, List.not_mem_nil, or_false] at hx
      rcases hx with rfl | rfl <;> exact strG_of _
theorem due_of {d : D} (h : dueP d = true) : ∃ a b : Int, d = .tup [.int a, .int b] ∧ 0 ≤ a ∧ 0 ≤ b := by
  unfold dueP at h
  split at h
  · simp only [Bool.and_eq_true, decide_eq_true_eq] at h
    exact ⟨_, _, rfl, h.1, h.2⟩
  · cases h
theorem cnt_of {d : D} (h : cntP d = true) : ∃ i : Int, d = .int i ∧ 0 ≤ i := by
  unfold cntP at h
  split at h
  · exact ⟨_, rfl, of_decide_eq_true h⟩
  · cases h
theorem snd_of {d : D} (h : sendP d = true) : ∃ s : Snd, d = s.d := by
  unfold sendP at h
  split at h
  · rename_i a b t w
    rw [Bool.and_eq_true, List.all_cons, List.all_cons, List.all_cons, Bool.and_eq_true, Bool.and_eq_true, Bool.and_eq_true] at h
    obtain ⟨x, y, rfl, _, _⟩ := due_of h.1
    obtain ⟨i, rfl, _⟩ := cnt_of h.2.1
    obtain ⟨j, rfl, _⟩ := cnt_of h.2.2.1
    obtain ⟨k, rfl, _⟩ := cnt_of h.2.2.2.1
    exact ⟨⟨i, j, x, y, k⟩, rfl⟩
  · cases h
theorem snds_of : ∀ {ds : List D}, ds.all sendP = true → ∃ sl : List Snd, ds = sl.map Snd.d
  | [], _ => ⟨[], rfl⟩
  | d :: ds, h => by
    rw [List.all_cons, Bool.and_eq_true] at h
    obtain ⟨s, rfl⟩ := snd_of h.1
    obtain ⟨sl, rfl⟩ := snds_of h.2
    exact ⟨s :: sl, rfl⟩
theorem cnts_of : ∀ {ds : List D}, ds.all cntP = true → ∃ vl : List Int, ds = vl.map D.int
  | [], _ => ⟨[], rfl⟩
  | d :: ds, h => by
    rw [List.all_cons, Bool.and_eq_true] at h
    obtain ⟨s, rfl, _⟩ := cnt_of h.1
    obtain ⟨sl, rfl⟩ := cnts_of h.2
    exact ⟨s :: sl, rfl⟩
theorem dd_of {d : D} (h : deedP d = true) : ∃ e : Dd, d = e.d ∧ nameS e.n = true ∧ nameS e.m = true := by
  unfold deedP at h
  split at h
  · rename_i t n m w a b
    simp only [Bool.and_eq_true] at h
    obtain ⟨h1, h2, h3, h4, h5, h6⟩ := h
    obtain ⟨x, y, rfl, _, _⟩ := due_of h1
    obtain ⟨i, rfl, _⟩ := cnt_of h4
    unfold nameP at h2 h3
    split at h2
    · split at h3
      · unfold allT at h5 h6
        split at h5
        · split at h6
          · obtain ⟨sl, rfl⟩ := snds_of h5
            obtain ⟨vl, rfl⟩ := cnts_of h6
            exact ⟨⟨x, y, _, _, i, sl, vl⟩, rfl, h2, h3⟩
          · cases h6
        · cases h5
      · cases h3
    · cases h2
  · cases h
theorem sn_int {T : Sto} {n : Nat} {i : Int} {q : PyData} (h : snapX T n (.int i) = some q) : q = .int i := by
  cases n with
  | zero => cases h
  | succ n => exact (Option.some.inj h).symm
theorem sn_tup {T : Sto} {n : Nat} {ds : List D} {q : PyData} (h : snapX T n (.tup ds) = some q) : ∃ m qs, q = .tuple qs ∧ snapL (snapX T m) ds = some qs := by
  cases n with
  | zero => cases h
  | succ n =>
    obtain ⟨qs, e1, e2⟩ := map_some (show (snapL (snapX T n) ds).map PyData.tuple = some q from h)
    exact ⟨n, qs, e2.symm, e1⟩
theorem sn_cons {f : D → Option PyData} {d : D} {ds : List D} {qs : List PyData} (h : snapL f (d :: ds) = some qs) : ∃ q qs', f d = some q ∧ snapL f ds = some qs' ∧ qs = q :: qs' := by
  unfold snapL at h
  cases e1 : f d with
  | none => rw [e1] at h; cases h
  | some a =>
    cases e2 : snapL f ds with
    | none => rw [e1, e2] at h; cases h
    | some as =>
      rw [e1, e2] at h
      cases h
      exact ⟨a, as, rfl, rfl, rfl⟩
theorem sn_nil {f : D → Option PyData} {qs : List PyData} (h : snapL f [] = some qs) : qs = [] := (Option.some.inj h).symm
theorem tup_ge (ts : List Str) : piled ts ≤ (tupleText ts).length := by
  by_cases h : ts = []
  · subst h; exact Nat.zero_le _
  · have := join_length_add ts h
    unfold tupleText
    rw [strLen_append, strLen_append]
    have k1 : (Str.ofString "(").length = 1 := rfl
    have k2 : 1 ≤ (Str.ofString (if (ts.length == 1) = true then ",)" else ")")).length := by
      split <;> decide
    omega
theorem piled_cons (x : Str) (ts : List Str) : piled (x :: ts) = x.length + 2 + piled ts := by simp only [piled, List.map_cons, List.sum_cons]
theorem sh_tuple (qs : List PyData) : piled (PyData.shownAll qs) ≤ (PyData.tuple qs).shown.length := tup_ge _
theorem sh_cons (q : PyData) (qs : List PyData) : piled (PyData.shownAll (q :: qs)) = q.shown.length + 2 + piled (PyData.shownAll qs) := piled_cons _ _
theorem sh_int (i : Int) : (PyData.int i).shown.length = (ts i).length := rfl
theorem able_int {i : Int} (h : (PyData.int i).showable = true) : i.natAbs.log2 < 1920 := of_decide_eq_true h
theorem able_cons {q : PyData} {qs : List PyData} (h : PyData.showableAll (q :: qs) = true) : q.showable = true ∧ PyData.showableAll qs = true := by
  have h : (PyData.showable q && PyData.showableAll qs) = true := h
  rwa [Bool.and_eq_true] at h
theorem snd_b {T : Sto} {n : Nat} {s : Snd} {q : PyData} (h : snapX T n s.d = some q) (hs : q.showable = true) : (∀ i ∈ [s.l, s.k, s.x, s.y, s.u], i.natAbs.log2 < 1920) ∧ wsum s.w ≤ q.shown.length := by
  obtain ⟨m, qs, rfl, h0⟩ := sn_tup h
  obtain ⟨q1, r1, a1, h1, rfl⟩ := sn_cons h0
  obtain ⟨q2, r2, a2, h2, rfl⟩ := sn_cons h1
  obtain ⟨q3, r3, a3, h3, rfl⟩ := sn_cons h2
  obtain ⟨q4, r4, a4, h4, rfl⟩ := sn_cons h3
  cases sn_nil h4
  cases sn_int a1
  cases sn_int a2
  cases sn_int a4
  obtain ⟨m', ps, rfl, b⟩ := sn_tup a3
  obtain ⟨p1, t1, b1, bb, rfl⟩ := sn_cons b
  obtain ⟨p2, t2, b2, bc, rfl⟩ := sn_cons bb
  cases sn_nil bc
  cases sn_int b1
  cases sn_int b2
  have hs : PyData.showableAll _ = true := hs
  obtain ⟨g1, hs⟩ := able_cons hs
  obtain ⟨g2, hs⟩ := able_cons hs
  obtain ⟨g3, hs⟩ := able_cons hs
  obtain ⟨g4, _⟩ := able_cons hs
  have g3 : PyData.showableAll _ = true := g3
  obtain ⟨k1, g3⟩ := able_cons g3
  obtain ⟨k2, _⟩ := able_cons g3
  refine ⟨fun i hi => ?_, ?_⟩
  · simp only [List.mem_cons, List.not_mem_nil, or_false] at hi
    rcases hi with rfl | rfl | rfl | rfl | rfl
    · exact able_int g1
    · exact able_int g2
    · exact able_int k1
    · exact able_int k2
    · exact able_int g4
  · have z1 := sh_tuple [.int s.l, .int s.k, .tuple [.int s.x, .int s.y], .int s.u]
    have z2 := sh_tuple [.int s.x, .int s.y]
    rw [sh_cons, sh_cons, sh_cons, sh_cons, sh_int, sh_int, sh_int] at z1
    rw [sh_cons, sh_cons, sh_int, sh_int] at z2
    have e : wsum s.w = 1 + ((ts s.l).length + ((ts s.k).length + ((st2 s.x s.y).length + ((ts s.u).length + 0)))) + 5 := rfl
    rw [e, st2_len]
    omega
theorem snds_b {f : D → Option PyData} {T : Sto} {n : Nat} (hf : f = snapX T n) : ∀ {sl : List Snd} {qs : List PyData}, snapL f (sl.map Snd.d) = some qs → PyData.showableAll qs = true → (∀ s ∈ sl, ∀ i ∈ [s.l, s.k, s.x, s.y, s.u], i.natAbs.log2 < 1920) ∧ wsum (sl.map Snd.w).flatten ≤ piled (PyData.shownAll qs)
  | [], _, _, _ => ⟨fun _ h => (nomatch h), Nat.zero_le _⟩
  | s :: sl, qs, h, hs => by
    obtain ⟨q, qs, h1, h2, rfl⟩ := sn_cons h
    obtain ⟨g1, g2⟩ := able_cons hs
    subst hf
    obtain ⟨b1, b2⟩ := snd_b h1 g1
    obtain ⟨c1, c2⟩ := snds_b rfl h2 g2
    refine ⟨fun x hx => ?_, ?_⟩
    · rcases List.mem_cons.mp hx with rfl | hx
      · exact b1
      · exact c1 x hx
    · rw [List.map_cons, List.flatten_cons, wsum_app, sh_cons]
      omega
theorem cnts_b {T : Sto} {n : Nat} : ∀ {vl : List Int} {qs : List PyData}, snapL (snapX T n) (vl.map D.int) = some qs → PyData.showableAll qs = true → (∀ i ∈ vl, i.natAbs.log2 < 1920) ∧ wsum (vl.map vw).flatten ≤ 2 * piled (PyData.shownAll qs)
  | [], _, _, _ => ⟨fun _ h => (nomatch h), Nat.zero_le _⟩
  | i :: vl, qs, h, hs => by
    obtain ⟨q, qs, h1, h2, rfl⟩ := sn_cons h
    obtain ⟨g1, g2⟩ := able_cons hs
    cases sn_int h1
    obtain ⟨c1, c2⟩ := cnts_b h2 g2
    refine ⟨fun x hx => ?_, ?_⟩
    · rcases List.mem_cons.mp hx with rfl | hx
      · exact able_int g1
      · exact c1 x hx
    · rw [List.map_cons, List.flatten_cons, wsum_app, sh_cons, sh_int]
      have e : wsum (vw i) = 1 + ((ts i).length + 0) + 2 := rfl
      rw [e]
      omega
theorem dd_ok {p n B : Nat} {S : Sto} {e : Dd} (h : Vl p S n B e.d) (hB : B ≤ 10000) (hn : nameS e.n = true) (hm : nameS e.m = true) : e.ok ∧ e.txt.length ≤ 5 * B + 100 := by
  obtain ⟨q, h1, h2, _, h4⟩ := h.ex
  obtain ⟨ol, od⟩ := okD_tup h.okS
  obtain ⟨l1, _⟩ := okD_tup (od (.tup (e.sl.map Snd.d)) (by simp))
  obtain ⟨l2, _⟩ := okD_tup (od (.tup (e.vl.map D.int)) (by simp))
  rw [List.length_map] at l1 l2
  obtain ⟨m, qs, rfl, v0⟩ := sn_tup h1
  obtain ⟨q1, r1, a1, v1, rfl⟩ := sn_cons v0
  obtain ⟨q2, r2, a2, v2, rfl⟩ := sn_cons v1
  obtain ⟨q3, r3, a3, v3, rfl⟩ := sn_cons v2
  obtain ⟨q4, r4, a4, v4, rfl⟩ := sn_cons v3
  obtain ⟨q5, r5, a5, v5, rfl⟩ := sn_cons v4
  obtain ⟨q6, r6, a6, v6, rfl⟩ := sn_cons v5
  cases sn_nil v6
  cases sn_int a4
  obtain ⟨m1, ps, rfl, b⟩ := sn_tup a1
  obtain ⟨p1, t1, b1, bb, rfl⟩ := sn_cons b
  obtain ⟨p2, t2, b2, bc, rfl⟩ := sn_cons bb
  cases sn_nil bc
  cases sn_int b1
  cases sn_int b2
  obtain ⟨m5, q5, rfl, a55⟩ := sn_tup a5
  obtain ⟨m6, q6, rfl, a66⟩ := sn_tup a6
  have hs : PyData.showableAll _ = true := h2
  obtain ⟨g1, hs⟩ := able_cons hs
  obtain ⟨_, hs⟩ := able_cons hs
  obtain ⟨_, hs⟩ := able_cons hs
  obtain ⟨g4, hs⟩ := able_cons hs
  obtain ⟨g5, hs⟩ := able_cons hs
  obtain ⟨g6, _⟩ := able_cons hs
  have g1 : PyData.showableAll _ = true := g1
  obtain ⟨k1, g1⟩ := able_cons g1
  obtain ⟨k2, _⟩ := able_cons g1
  obtain ⟨c1, c2⟩ := snds_b rfl a55 g5
  obtain ⟨d1, d2⟩ := cnts_b a66 g6
  have z0 := sh_tuple [.tuple [.int e.a, .int e.b], q2, q3, .int e.w, .tuple q5, .tuple q6]
  have z1 := sh_tuple [.int e.a, .int e.b]
  have z5 := sh_tuple q5
  have z6 := sh_tuple q6
  rw [sh_cons, sh_cons, sh_cons, sh_cons, sh_cons, sh_cons, sh_int] at z0
  rw [sh_cons, sh_cons, sh_int, sh_int] at z1
  have nl : e.n.length ≤ 8 := by
    unfold nameS at hn
    simp only [Bool.and_eq_true, decide_eq_true_eq] at hn
    exact hn.1.2
  have ml : e.m.length ≤ 8 := by
    unfold nameS at hm
    simp only [Bool.and_eq_true, decide_eq_true_eq] at hm
    exact hm.1.2
  have hw : wsum e.ws.flatten ≤ 5 * B + 100 := by
    have e0 : e.ws.flatten = e.w0 ++ ((e.sl.map Snd.w).flatten ++ (e.vl.map vw).flatten) := by
      unfold Dd.ws
      rw [List.flatten_cons, List.flatten_append]
    have e1 : wsum e.w0 = (st2 e.a e.b).length + (e.n.length + (e.m.length + ((ts e.w).length + 0))) + 4 := rfl
    rw [e0, wsum_app, wsum_app, e1, st2_len]
    omega
  refine ⟨⟨fun i hi => ?_, c1, d1, by omega, l1, l2⟩, Nat.le_trans (jn_len _) hw⟩
  simp only [List.mem_cons, List.not_mem_nil, or_false] at hi
  rcases hi with rfl | rfl | rfl
  · exact able_int k1
  · exact able_int k2
  · exact able_int g4
end Lw
namespace Lw
open PySem PySem.Spec PyProof.Rows L2 Fa
local macro_rules | `(tactic| walk_at "ev") => `(tactic| simp only [bK_ok, bK_err, bK_bad, bnd_ap, ret_ap, fail_ap, mVar_ap, vK_some, mC_ap, m1_ap, m2_ap, k2_ap, mNil_ap, mCons_ap, kCons_ap, kCon_ap, mA_ap, mIf_ap, kIf_t, kIf_f, tOf_ap, isBl_ap, tNt_ap, kNt_ap, tAn_ap, kAn_t, kAn_f, tOr_ap, kOr_t, kOr_f, mNot_ap, kNot_ap, mAnd_ap, kAnd_t, kAnd_f, mOr_ap, kOrV_t, kOrV_f,
  sSeq_ap, sK_nx, sK_rt, sK_bk, sK_ct, sK_ex, sK_bad, oK_ok, oK_err, oK_bad, kNx_ap, kRt_ap, sEx_ap, sRet_ap, sRetN_ap, sNx_ap, sBad_ap, sIf_ap, kIfS_t, kIfS_f, gN_ap, gT_ap, gT_tt, gTc_ap, gT0_ap, sAs_ap, kAs_ap, kAs2_ok, sPar_ap, kPar_ap, gSubD_ap, kSub1_ap, kSub2_ap, kSub3_ap, fK_nx, fK_rt, fK_ex, mLM_ap, mRng1_ap, mRng2_ap, mSrc_ap, src_t, src_r, src_s, src_k,
  mChain_ap, kCh1_ap, kCh2_ap, kCh3_t, kCh3_f, mSl_ap, kSl1_ap, kSl2_ap, mSlT_ap, kTl1_ap, kTl2_ap, mP0_ap, mP_ap, intO_ap, sl_t, dfl_ap, mTM_ap, kTM_k, kTM_t, mMeth_ap, kMe1_ap, kMe2_ap, kMe3_ap, gFld_ap, kF1_ap, gSubA_ap, kSA1_ap, kSA2_ap, sPar3_ap, kPar3_ap, mkD_ap, mkR_ok, dct0D_ap, mDisp_ap, mPairs_nil, mPairs_cons, kPr1_ap, kPr2_ap, kPr3_ap, tuple_t, list_t, mZip_ap, zip_tt,
  wipeE, nc0, nc1, nc2, nc3, nc4, nc5, nc6, nc7, nc8, nc9, nc10, nc11, nc12, nc13, nc14, nc15, Int.reduceEq, Int.reduceLE, Int.reduceLT, Int.reduceSub, Int.reduceAdd,
  fnM_ap, tupD_ap, lstD_ap, le_line, Nat.reduceLeDiff, eq_self,
  add_ii, sub_ii, neg_i, lt_ii, le_ii, gt_ii, ge_ii, isN_n, isN_i, isN_t, isN_s, isN_b, isN_l, abs_i, max_ii, min_ii, int_i, int_b, len_t, len_r, eq_ii, eq_bb, eq_ss,
  List.map_cons, List.map_nil, List.cons_append, List.nil_append, List.append_nil, List.replicate_succ, List.replicate_zero, List.length_cons, List.length_nil, Nat.reduceSub, Nat.reduceAdd, Nat.sub_self, Nat.zero_add,
  List.getElem?_cons_succ, List.getElem?_cons_zero, List.set_cons_succ, List.set_cons_zero, Bool.not_true, Bool.not_false, decide_true, decide_false, if_true, if_false, reduceIte, Bool.false_eq_true])
local macro_rules | `(tactic| walk_at "ex") => `(tactic| simp only [bK_ok, bK_err, bK_bad, bnd_ap, ret_ap, fail_ap, mVar_ap, vK_some, mC_ap, m1_ap, m2_ap, k2_ap, mNil_ap, mCons_ap, kCons_ap, kCon_ap, mA_ap, mIf_ap, kIf_t, kIf_f, tOf_ap, isBl_ap, tNt_ap, kNt_ap, kAn_t, kAn_f, tOr_ap, kOr_t, kOr_f, mNot_ap, kNot_ap, mAnd_ap, kAnd_t, kAnd_f, mOr_ap, kOrV_t, kOrV_f,
  sSeq_ap, sK_nx, sK_rt, sK_bk, sK_ct, sK_ex, sK_bad, oK_ok, oK_err, oK_bad, kNx_ap, kRt_ap, sEx_ap, sRet_ap, sRetN_ap, sNx_ap, sBad_ap, sIf_ap, kIfS_t, kIfS_f, gN_ap, gT_ap, gT_tt, gTc_ap, gT0_ap, sAs_ap, kAs_ap, kAs2_ok, sPar_ap, kPar_ap, gSubD_ap, kSub1_ap, kSub2_ap, kSub3_ap, fK_nx, fK_rt, fK_ex, mLM_ap, mRng1_ap, mRng2_ap, mSrc_ap, src_t, src_r, src_s, src_k,
  mChain_ap, kCh1_ap, kCh2_ap, kCh3_t, kCh3_f, mSl_ap, kSl1_ap, kSl2_ap, mSlT_ap, kTl1_ap, kTl2_ap, mP0_ap, mP_ap, intO_ap, sl_t, dfl_ap, mTM_ap, kTM_k, kTM_t, mMeth_ap, kMe1_ap, kMe2_ap, kMe3_ap, gFld_ap, kF1_ap, gSubA_ap, kSA1_ap, kSA2_ap, sPar3_ap, kPar3_ap, mkD_ap, mkR_ok, dct0D_ap, mDisp_ap, mPairs_nil, mPairs_cons, kPr1_ap, kPr2_ap, kPr3_ap, tuple_t, list_t, mZip_ap, zip_tt,
  wipeE, nc0, nc1, nc2, nc3, nc4, nc5, nc6, nc7, nc8, nc9, nc10, nc11, nc12, nc13, nc14, nc15, Int.reduceEq, Int.reduceLE, Int.reduceLT, Int.reduceSub, Int.reduceAdd,
  fnM_ap, tupD_ap, lstD_ap, le_line, Nat.reduceLeDiff, eq_self,
  add_ii, sub_ii, neg_i, lt_ii, le_ii, gt_ii, ge_ii, isN_n, isN_i, isN_t, isN_s, isN_b, isN_l, abs_i, max_ii, min_ii, int_i, int_b, len_t, len_r, eq_ii, eq_bb, eq_ss,
  List.map_cons, List.map_nil, List.cons_append, List.nil_append, List.append_nil, List.replicate_succ, List.replicate_zero, List.length_cons, List.length_nil, Nat.reduceSub, Nat.reduceAdd, Nat.sub_self, Nat.zero_add,
  List.getElem?_cons_succ, List.getElem?_cons_zero, List.set_cons_succ, List.set_cons_zero, Bool.not_true, Bool.not_false, decide_true, decide_false, if_true, if_false, reduceIte, Bool.false_eq_true])
/-! ### k90: what is kept -/
mutual
theorem lt_ok {S : Sto} : ∀ {d : D}, okD S d = true → ltD' S.length d = true
  | .non, _ | .bl _, _ | .int _, _ | .str _, _ => rfl
  | .tup ds, h => by
    simp only [okD, Bool.and_eq_true] at h
    exact lt_oks h.2
  | .loc n, h => by
    unfold okD at h
    cases e : S[n]? with
    | none => rw [e] at h; cases h
    | some o => exact decide_eq_true (List.getElem?_eq_some_iff.mp e).1
theorem lt_oks {S : Sto} : ∀ {ds : List D}, okDs S ds = true → ltDs S.length ds = true
  | [], _ => rfl
  | d :: ds, h => by
    simp only [okDs, Bool.and_eq_true] at h
    simp only [ltDs, lt_ok h.1, lt_oks h.2]
    rfl
end
theorem seq_ex {a b : Fa.Env → Sto → Out} {r r1 : Fa.Env} {S S1 : Sto} {x : Exn} (h : a r S = .ex x r1 S1) : sSeq a b r S = .ex x r1 S1 := by
  unfold sSeq
  rw [h]
def xV (v : D) : Exn := ⟨"BadValue", [("value", v)]⟩
theorem show_err {S : Sto} {d : D} (h : okD S d = true) (hd : deedP d = false) : gq F_show_deed [d] S = .err (xV d) S := by
  have q := is_deed_q h
  rw [hd] at q
  refine gq_err (l := []) ?_ (by simp [xV, ltK, lt_ok h])
  rw [List.append_nil]
  unfold F_show_deed
  rw [fnM_ap _ _ _ _ _ (by rfl)]
  have s1 : sIf (tNt (tOf (mA (gq F_is_deed) (mCons (mVar 0) mNil)))) (sRaise "BadValue" "value" (mVar 0)) sNx [some d, none, none, none, none, none, none, none, none, none, none, none, none] S = .ex (xV d) [some d, none, none, none, none, none, none, none, none, none, none, none, none] S := by
    repeat (first | walk_at "ev" | simp only [q])
    exact sRaise_ap _ _ _ _ _ rfl
  exact (congrArg fK (seq_ex s1)).trans rfl
abbrev kT (s : String) (d : D) : D := .tup [.str (PySem.Str.ofString s), d]
theorem kept_told {S : Sto} {d : D} {x : Str} (h : gq F_show_deed [d] S = .ok (.str x) S) : gq F_l_kept [d] S = .ok (kT "told" (.str x)) S := by
  refine gq_new0 ?_ rfl
  unfold F_l_kept
  rw [fnM_ap _ _ _ _ _ (by rfl)]
  have s1 : sAs (mA tupD (mCons (mC .non) (mCons (mC .non) mNil))) (gT (gTc (gN 1) (gTc (gN 2) gT0))) [some d, none, none, none, none] S = .nx [some d, some .non, some .non, none, none] S := by
    repeat (first | walk_at "ev" | simp only [])
  have m : (mA (gq F_show_deed) (mCons (mVar 0) mNil)) [some d, some .non, some .non, none, none] S = .ok (.str x) S := by
    repeat (first | walk_at "ev" | simp only [h])
  have s2 : (fun r => sTry 2 3 1 ["BadModel", "BadValue"] ((mA (gq F_show_deed) (mCons (mVar 0) mNil)) r) r) [some d, some .non, some .non, none, none] S = .nx [some d, some .non, some (.str x), none, none] S := by
    show sTry 2 3 1 ["BadModel", "BadValue"] ((mA (gq F_show_deed) (mCons (mVar 0) mNil)) [some d, some .non, some .non, none, none]) [some d, some .non, some .non, none, none] S = _
    unfold sTry
    rw [m]
    rfl
  refine (congrArg fK (seq1 s1 (seq1 s2 (o := .rt (kT "told" (.str x)) S) ?_))).trans rfl
  repeat (first | walk_at "ev" | simp only [])
theorem kept_err {S : Sto} {d : D} (h : gq F_show_deed [d] S = .err (xV d) S) (hl : ltD' S.length d = true) : gq F_l_kept [d] S = .ok (kT "value" d) S := by
  refine gq_new0 ?_ (by simp [ltD', ltDs, hl])
  unfold F_l_kept
  rw [fnM_ap _ _ _ _ _ (by rfl)]
  have s1 : sAs (mA tupD (mCons (mC .non) (mCons (mC .non) mNil))) (gT (gTc (gN 1) (gTc (gN 2) gT0))) [some d, none, none, none, none] S = .nx [some d, some .non, some .non, none, none] S := by
    repeat (first | walk_at "ev" | simp only [])
  have m : (mA (gq F_show_deed) (mCons (mVar 0) mNil)) [some d, some .non, some .non, none, none] S = .err (xV d) S := by
    repeat (first | walk_at "ev" | simp only [h])
  have s2 : (fun r => sTry 2 3 1 ["BadModel", "BadValue"] ((mA (gq F_show_deed) (mCons (mVar 0) mNil)) r) r) [some d, some .non, some .non, none, none] S = .nx [some d, some (exnD (xV d)), some .non, none, none] S := by
    show sTry 2 3 1 ["BadModel", "BadValue"] ((mA (gq F_show_deed) (mCons (mVar 0) mNil)) [some d, some .non, some .non, none, none]) [some d, some .non, some .non, none, none] S = _
    unfold sTry
    rw [m]
    rfl
  have n1 : isN false (exnD (xV d)) .non S = .ok (.bl false) S := rfl
  have x1 : isxD [("BadModel", false), ("BadValue", true)] (exnD (xV d)) S = .ok (.bl true) S := rfl
  have x2 : isxD [("BadModel", true), ("BadValue", false)] (exnD (xV d)) S = .ok (.bl false) S := rfl
  have x3 : isxD [("BadModel", true), ("BadValue", true)] (exnD (xV d)) S = .ok (.bl true) S := rfl
  have x4 : xfD "value" ["BadModel", "BadValue"] (exnD (xV d)) S = .ok d S := rfl
  refine (congrArg fK (seq1 s1 (seq1 s2 (o := .rt (kT "value" d) S) ?_))).trans rfl
  generalize exnD (xV d) = X at n1 x1 x2 x3 x4
  repeat (first | walk_at "ev" | simp only [n1, x1, x2, x3, x4])
theorem eq_same (z : Str) (S : Sto) : eqB false (.str z) (.str z) S = .ok (.bl true) S := by
  rw [eq_ss]
  simp
theorem ne_same (z : Str) (S : Sto) : eqB true (.str z) (.str z) S = .ok (.bl false) S := by
  rw [eq_ss]
  simp
theorem repr_val {p n B : Nat} {S : Sto} {d : D} (s : String) (h : Vl p S n B d) (hn : n ≤ 20) (hB : B ≤ 10000) (hs : Vl p S n 10000 (.str (PySem.Str.ofString s))) : ∃ z, reprX [kT s d] S = .ok (.str z) S := by
  have h2 : Vl p S (n + 1) 30000 (kT s d) := vl_tup (n := n) (B := 10000) (fun e he => by
    simp only [List.mem_cons, List.not_mem_nil, or_false] at he
    rcases he with e | e <;> subst e
    · exact hs
    · exact h.mono (by omega) hB) (by simp) (by simp)
  obtain ⟨q, h1, _⟩ := h2.rep (by omega) (by decide) []
  rw [List.append_nil] at h1
  exact ⟨_, h1⟩
theorem repr_txt {S : Sto} {x : Str} (hx : strG x = true) (hl : x.length ≤ 1000000) : ∃ z, reprX [kT "told" (.str x)] S = .ok (.str z) S := by
  refine ⟨_, reprX_ok (d := .tuple [.str (PySem.Str.ofString "told"), .str x]) rfl ?_⟩
  unfold showsX
  have h1 : (PyData.tuple [.str (PySem.Str.ofString "told"), .str x]).shown.length ≤ sizeLine := by
    have a := tup_len (PyData.shownAll [.str (PySem.Str.ofString "told"), .str x])
    have b : piled (PyData.shownAll [.str (PySem.Str.ofString "told"), .str x]) = (reprText (PySem.Str.ofString "told")).length + 2 + ((reprText x).length + 2 + 0) := rfl
    have c := StrLaws.reprText_len x fun c hc => of_decide_eq_true (List.all_eq_true.mp hx c hc)
    have d := StrLaws.reprText_len (PySem.Str.ofString "told") fun c hc => of_decide_eq_true (List.all_eq_true.mp (strG_of "told") c hc)
    have e : (PySem.Str.ofString "told").length = 4 := rfl
    show (tupleText (PyData.shownAll [.str (PySem.Str.ofString "told"), .str x])).length ≤ _
    rw [sizeLine_eq]
    omega
  rw [decide_eq_true h1]
  rfl
/-- one thing looked at -/
theorem thing_q {p n B : Nat} {S : Sto} {d : D} (h : Vl p S n B d) (hn : n ≤ 20) (hB : B ≤ 10000) {x0 x1 x2 x4 x5 : Option D} :
    ∃ y4 y5, (sSeq (sAs (mA reprX (mCons (mVar 3) mNil)) (gN 4))
    (sSeq (sAs (mIf (tOf (mA (gq F_l_is_deed) (mCons (mVar 3) mNil))) (mA tupD (mCons (mC (.str (PySem.Str.ofString "told"))) (mCons (mA (gq F_l_written) (mCons (mVar 3) mNil)) mNil))) (mA tupD (mCons (mC (.str (PySem.Str.ofString "value"))) (mCons (mVar 3) mNil)))) (gN 5))
    (sIf (Fa.tOr (tOf (m2 (eqB true) (mA reprX (mCons (mA (gq F_l_kept) (mCons (mVar 3) mNil)) mNil)) (mA reprX (mCons (mVar 5) mNil)))) (tOf (m2 (eqB true) (mA reprX (mCons (mVar 3) mNil)) (mVar 4)))) (sRet (mC (.bl false))) sNx))) [x0, x1, x2, some d, x4, x5] S = .nx [x0, x1, x2, some d, y4, y5] S := by
  obtain ⟨q, r0, _⟩ := h.rep (by omega) (by omega) []
  rw [List.append_nil] at r0
  have ok := h.okS
  have l := l_is_deed_q ok
  obtain ⟨k, hk, hr, hw⟩ : ∃ k, gq F_l_kept [d] S = .ok k S ∧ (∃ z, reprX [k] S = .ok (.str z) S) ∧ mIf (tOf (mA (gq F_l_is_deed) (mCons (mVar 3) mNil))) (mA tupD (mCons (mC (.str (PySem.Str.ofString "told"))) (mCons (mA (gq F_l_written) (mCons (mVar 3) mNil)) mNil))) (mA tupD (mCons (mC (.str (PySem.Str.ofString "value"))) (mCons (mVar 3) mNil))) [x0, x1, x2, some d, some (.str q.shown), x5] S = .ok k S := by
    cases hd : deedP d with
    | true =>
      rw [hd] at l
      obtain ⟨e, rfl, hn1, hm1⟩ := dd_of hd
      obtain ⟨eo, el⟩ := dd_ok h hB hn1 hm1
      have w := written_q eo (S := S)
      refine ⟨_, kept_told (show_q eo ok hd), repr_txt (Dd.txtG hn1 hm1) (by omega), ?_⟩
      repeat (first | walk_at "ev" | simp only [l, w])
    | false =>
      rw [hd] at l
      refine ⟨_, kept_err (show_err ok hd) (lt_ok ok), repr_val "value" h hn hB (vl_str (by decide +kernel) (by decide) (by decide)), ?_⟩
      repeat (first | walk_at "ev" | simp only [l])
  obtain ⟨z, hz⟩ := hr
  have n1 := ne_same z S
  have n2 := ne_same q.shown S
  refine ⟨some (.str q.shown), some k, ?_⟩
  refine seq1 (r1 := [x0, x1, x2, some d, some (.str q.shown), x5]) (S1 := S) (by repeat (first | simp only [r0] | walk_at "ev")) ?_
  refine seq1 (r1 := [x0, x1, x2, some d, some (.str q.shown), some k]) (S1 := S) (by rw [sAs_ap, hw]; rfl) ?_
  repeat (first | simp only [hk, hz, r0, n1, n2] | walk_at "ev")
end Lw
namespace Lw
open PySem PySem.Spec PyProof.Rows L2 Fa
local macro_rules | `(tactic| walk_at "ev") => `(tactic| simp only [bK_ok, bK_err, bK_bad, bnd_ap, ret_ap, fail_ap, mVar_ap, vK_some, mC_ap, m1_ap, m2_ap, k2_ap, mNil_ap, mCons_ap, kCons_ap, kCon_ap, mA_ap, mIf_ap, kIf_t, kIf_f, tOf_ap, isBl_ap, tNt_ap, kNt_ap, tAn_ap, kAn_t, kAn_f, tOr_ap, kOr_t, kOr_f, mNot_ap, kNot_ap, mAnd_ap, kAnd_t, kAnd_f, mOr_ap, kOrV_t, kOrV_f,
  sSeq_ap, sK_nx, sK_rt, sK_bk, sK_ct, sK_ex, sK_bad, oK_ok, oK_err, oK_bad, kNx_ap, kRt_ap, sEx_ap, sRet_ap, sRetN_ap, sNx_ap, sBad_ap, sIf_ap, kIfS_t, kIfS_f, gN_ap, gT_ap, gT_tt, gTc_ap, gT0_ap, sAs_ap, kAs_ap, kAs2_ok, sPar_ap, kPar_ap, gSubD_ap, kSub1_ap, kSub2_ap, kSub3_ap, fK_nx, fK_rt, fK_ex, mLM_ap, mRng1_ap, mRng2_ap, mSrc_ap, src_t, src_r, src_s, src_k,
  mChain_ap, kCh1_ap, kCh2_ap, kCh3_t, kCh3_f, mSl_ap, kSl1_ap, kSl2_ap, mSlT_ap, kTl1_ap, kTl2_ap, mP0_ap, mP_ap, intO_ap, sl_t, dfl_ap, mTM_ap, kTM_k, kTM_t, mMeth_ap, kMe1_ap, kMe2_ap, kMe3_ap, gFld_ap, kF1_ap, gSubA_ap, kSA1_ap, kSA2_ap, sPar3_ap, kPar3_ap, mkD_ap, mkR_ok, dct0D_ap, mDisp_ap, mPairs_nil, mPairs_cons, kPr1_ap, kPr2_ap, kPr3_ap, tuple_t, list_t, mZip_ap, zip_tt,
  wipeE, nc0, nc1, nc2, nc3, nc4, nc5, nc6, nc7, nc8, nc9, nc10, nc11, nc12, nc13, nc14, nc15, Int.reduceEq, Int.reduceLE, Int.reduceLT, Int.reduceSub, Int.reduceAdd,
  fnM_ap, tupD_ap, lstD_ap, le_line, Nat.reduceLeDiff, eq_self,
  add_ii, sub_ii, neg_i, lt_ii, le_ii, gt_ii, ge_ii, isN_n, isN_i, isN_t, isN_s, isN_b, isN_l, abs_i, max_ii, min_ii, int_i, int_b, len_t, len_r, eq_ii, eq_bb, eq_ss,
  List.map_cons, List.map_nil, List.cons_append, List.nil_append, List.append_nil, List.replicate_succ, List.replicate_zero, List.length_cons, List.length_nil, Nat.reduceSub, Nat.reduceAdd, Nat.sub_self, Nat.zero_add,
  List.getElem?_cons_succ, List.getElem?_cons_zero, List.set_cons_succ, List.set_cons_zero, Bool.not_true, Bool.not_false, decide_true, decide_false, if_true, if_false, reduceIte, Bool.false_eq_true])
local macro_rules | `(tactic| walk_at "ex") => `(tactic| simp only [bK_ok, bK_err, bK_bad, bnd_ap, ret_ap, fail_ap, mVar_ap, vK_some, mC_ap, m1_ap, m2_ap, k2_ap, mNil_ap, mCons_ap, kCons_ap, kCon_ap, mA_ap, mIf_ap, kIf_t, kIf_f, tOf_ap, isBl_ap, tNt_ap, kNt_ap, kAn_t, kAn_f, tOr_ap, kOr_t, kOr_f, mNot_ap, kNot_ap, mAnd_ap, kAnd_t, kAnd_f, mOr_ap, kOrV_t, kOrV_f,
  sSeq_ap, sK_nx, sK_rt, sK_bk, sK_ct, sK_ex, sK_bad, oK_ok, oK_err, oK_bad, kNx_ap, kRt_ap, sEx_ap, sRet_ap, sRetN_ap, sNx_ap, sBad_ap, sIf_ap, kIfS_t, kIfS_f, gN_ap, gT_ap, gT_tt, gTc_ap, gT0_ap, sAs_ap, kAs_ap, kAs2_ok, sPar_ap, kPar_ap, gSubD_ap, kSub1_ap, kSub2_ap, kSub3_ap, fK_nx, fK_rt, fK_ex, mLM_ap, mRng1_ap, mRng2_ap, mSrc_ap, src_t, src_r, src_s, src_k,
  mChain_ap, kCh1_ap, kCh2_ap, kCh3_t, kCh3_f, mSl_ap, kSl1_ap, kSl2_ap, mSlT_ap, kTl1_ap, kTl2_ap, mP0_ap, mP_ap, intO_ap, sl_t, dfl_ap, mTM_ap, kTM_k, kTM_t, mMeth_ap, kMe1_ap, kMe2_ap, kMe3_ap, gFld_ap, kF1_ap, gSubA_ap, kSA1_ap, kSA2_ap, sPar3_ap, kPar3_ap, mkD_ap, mkR_ok, dct0D_ap, mDisp_ap, mPairs_nil, mPairs_cons, kPr1_ap, kPr2_ap, kPr3_ap, tuple_t, list_t, mZip_ap, zip_tt,
  wipeE, nc0, nc1, nc2, nc3, nc4, nc5, nc6, nc7, nc8, nc9, nc10, nc11, nc12, nc13, nc14, nc15, Int.reduceEq, Int.reduceLE, Int.reduceLT, Int.reduceSub, Int.reduceAdd,
  fnM_ap, tupD_ap, lstD_ap, le_line, Nat.reduceLeDiff, eq_self,
  add_ii, sub_ii, neg_i, lt_ii, le_ii, gt_ii, ge_ii, isN_n, isN_i, isN_t, isN_s, isN_b, isN_l, abs_i, max_ii, min_ii, int_i, int_b, len_t, len_r, eq_ii, eq_bb, eq_ss,
  List.map_cons, List.map_nil, List.cons_append, List.nil_append, List.append_nil, List.replicate_succ, List.replicate_zero, List.length_cons, List.length_nil, Nat.reduceSub, Nat.reduceAdd, Nat.sub_self, Nat.zero_add,
  List.getElem?_cons_succ, List.getElem?_cons_zero, List.set_cons_succ, List.set_cons_zero, Bool.not_true, Bool.not_false, decide_true, decide_false, if_true, if_false, reduceIte, Bool.false_eq_true])
/-! ### k90: parts of values -/
mutual
/-- no int is greater -/
def PB (M : Nat) : PyData → Bool
  | .int i => decide (i.natAbs ≤ M)
  | .tuple qs => PBs M qs
  | .list qs => PBs M qs
  | _ => true
def PBs (M : Nat) : List PyData → Bool
  | [] => true
  | q :: qs => PB M q && PBs M qs
end
structure Vm (p : Nat) (S : Sto) (M n B : Nat) (d : D) : Prop where
  ok : okD (Sx p S) d = true
  ex : ∃ q, snapX (Sx p S) (n + 1) d = some q ∧ q.showable = true ∧ q.depth ≤ n ∧ q.shown.length ≤ B ∧ PB M q = true
section
variable {p M n B : Nat} {S T : Sto} {d : D}
theorem Vm.vl (h : Vm p S M n B d) : Vl p S n B d := by
  obtain ⟨q, h1, h2, h3, h4, _⟩ := h.ex
  exact ⟨h.ok, q, h1, h2, h3, h4⟩
theorem PB_up {M' : Nat} (hM : M ≤ M') : (q : PyData) → PB M q = true → PB M' q = true
  | .int i, h => by
    unfold PB at h ⊢
    exact decide_eq_true (Nat.le_trans (of_decide_eq_true h) hM)
  | .tuple qs, h => by
    unfold PB at h ⊢
    exact PBs_up hM qs h
  | .list qs, h => by
    unfold PB at h ⊢
    exact PBs_up hM qs h
  | .none, _ | .bool _, _ | .str _, _ | .dict _, _ => by unfold PB; rfl
where
  PBs_up {M' : Nat} (hM : M ≤ M') : (qs : List PyData) → PBs M qs = true → PBs M' qs = true
    | [], _ => by unfold PBs; rfl
    | q :: qs, h => by
      unfold PBs at h ⊢
      rw [Bool.and_eq_true] at h ⊢
      exact ⟨PB_up hM q h.1, PBs_up hM qs h.2⟩
theorem Vm.mono (h : Vm p S M n B d) {M' n' B' : Nat} (hM : M ≤ M') (hn : n ≤ n') (hB : B ≤ B') : Vm p S M' n' B' d := by
  obtain ⟨q, h1, h2, h3, h4, h5⟩ := h.ex
  exact ⟨h.ok, q, snapX_lv h1 (by omega), h2, by omega, by omega, PB_up hM q h5⟩
theorem Vm.gr (h : Vm p S M n B d) (g : Grw p S T) : Vm p T M n B d := by
  have hv := h.vl.grw g.2
  obtain ⟨q, h1, h2, h3, h4, h5⟩ := h.ex
  have hm : Mor (Sx p S) (Sx p T) := fun k o e ho => by
    have e1 := Sx_mor p S k o e ho
    have hk : k ≠ p := fun z => by
      subst z
      unfold Sx at e
      have hl : k < S.length := (List.getElem?_eq_some_iff.mp e1).1
      rw [List.getElem?_set_self hl] at e
      cases e
      rcases ho with ⟨_, h⟩ | ⟨_, h⟩ <;> cases h
    exact Sx_at (g.at hk e1) hk
  exact ⟨hv.ok, q, snapX_mono hm _ _ _ h1, h2, h3, h4, h5⟩
theorem vm_int {i : Int} (hi : i.natAbs ≤ M) (h : i.natAbs.log2 < 1920) (hl : (Str.ofString (toString i)).length ≤ B) : Vm p S M n B (.int i) := ⟨rfl, .int i, by cases n <;> rfl, decide_eq_true h, Nat.zero_le _, hl, by unfold PB; exact decide_eq_true hi⟩
theorem vm_non (hB : 4 ≤ B) : Vm p S M n B .non := ⟨rfl, .none, by cases n <;> rfl, rfl, Nat.zero_le _, hB, by unfold PB; rfl⟩
theorem vm_bl {b : Bool} (hB : 5 ≤ B) : Vm p S M n B (.bl b) := ⟨rfl, .bool b, by cases n <;> rfl, rfl, Nat.zero_le _, by cases b <;> first | exact hB | exact Nat.le_trans (by decide) hB, by unfold PB; rfl⟩
theorem vm_str {x : Str} (hx : strG x = true) (hl : x.length ≤ 1000) (hB : 10 * x.length + 2 ≤ B) : Vm p S M n B (.str x) := ⟨decide_eq_true hl, .str x, by cases n <;> rfl, rfl, Nat.zero_le _, Nat.le_trans (StrLaws.reprText_len x fun c hc => of_decide_eq_true (List.all_eq_true.mp hx c hc)) hB, by unfold PB; rfl⟩
theorem vm_dct0 {k : Nat} (hk : S[k]? = some (.dct [])) (hp : k ≠ p) (hB : 2 ≤ B) : Vm p S M (n + 1) B (.loc k) := by
  have hx := Sx_at (p := p) hk hp
  refine ⟨?_, .dict [], ?_, rfl, by show 0 + 1 ≤ n + 1; omega, ?_, by unfold PB; rfl⟩
  · unfold okD
    rw [hx]
  · rw [snapX_dct hx]
    rfl
  · exact hB
/-- small ints -/
theorem vm_sm {i : Int} (hi : i.natAbs ≤ 1000000000) (hM : i.natAbs ≤ M) (hB : 12 ≤ B) : Vm p S M n B (.int i) := by
  have h10 : i.natAbs < 10 ^ 10 := by omega
  refine vm_int hM ?_ ?_
  · have : i.natAbs < 2 ^ 1920 := Nat.lt_of_lt_of_le h10 (by decide +kernel)
    by_cases h0 : i.natAbs = 0
    · rw [h0]; decide
    · exact (Nat.log2_lt h0).mpr this
  · have := int_text_length_le10 (a := i) (k := 10) (by decide) h10
    have e : (Str.ofString (toString i)).length = (toString i).length := by
      rw [PySem.Str.ofString_eq_toList]
      show ((toString i).toList.map Char.toNat).toArray.size = _
      rw [List.size_toArray, List.length_map]
      exact String.length_toList
    rw [e]
    omega
end
def szX (T : Sto) (m : Nat) (d : D) : Nat := match snapX T m d with
  | some q => q.shown.length + 2
  | none => 0
/-- values beside one another, so deep, so long in all -/
structure Pl (p : Nat) (S : Sto) (M m N : Nat) (ds : List D) : Prop where
  ea : ∀ d ∈ ds, okD (Sx p S) d = true ∧ ∃ q, snapX (Sx p S) (m + 1) d = some q ∧ q.showable = true ∧ q.depth ≤ m ∧ PB M q = true
  su : (ds.map (szX (Sx p S) (m + 1))).sum ≤ N
section
variable {p M m N B : Nat} {S : Sto} {ds es : List D}
theorem pl_qs : ∀ {ds : List D}, (∀ d ∈ ds, okD (Sx p S) d = true ∧ ∃ q, snapX (Sx p S) (m + 1) d = some q ∧ q.showable = true ∧ q.depth ≤ m ∧ PB M q = true) → okDs (Sx p S) ds = true ∧ ∃ qs, snapL (snapX (Sx p S) (m + 1)) ds = some qs ∧ PyData.showableAll qs = true ∧ PyData.depthAll qs ≤ m ∧ PBs M qs = true ∧ piled (PyData.shownAll qs) = (ds.map (szX (Sx p S) (m + 1))).sum
  | [], _ => ⟨rfl, [], rfl, rfl, Nat.zero_le _, by unfold PBs; rfl, rfl⟩
  | d :: ds, h => by
    obtain ⟨h0, q, h1, h2, h3, h5⟩ := h d List.mem_cons_self
    obtain ⟨g0, qs, g1, g2, g3, g5, g4⟩ := pl_qs (ds := ds) fun e he => h e (List.mem_cons_of_mem _ he)
    refine ⟨by simp only [okDs, h0, g0]; rfl, q :: qs, ?_, ?_, ?_, by unfold PBs; rw [h5, g5]; rfl, ?_⟩
    · unfold snapL
      rw [h1, g1]
    · show (PyData.showable q && PyData.showableAll qs) = true
      rw [h2, g2]
      rfl
    · show max (PyData.depth q) (PyData.depthAll qs) ≤ m
      exact Nat.max_le.mpr ⟨h3, g3⟩
    · rw [sh_cons, g4, List.map_cons, List.sum_cons]
      unfold szX
      rw [h1]
theorem Pl.vl (h : Pl p S M m N ds) (hl : ds.length ≤ 1000) (hB : N + 3 ≤ B) : Vm p S M (m + 1) B (.tup ds) := by
  obtain ⟨g0, qs, g1, g2, g3, g5, g4⟩ := pl_qs h.ea
  have := h.su
  refine ⟨?_, .tuple qs, ?_, g2, ?_, ?_, by unfold PB; exact g5⟩
  · simp only [okD, g0, decide_eq_true hl]
    rfl
  · show (snapL (snapX (Sx p S) (m + 1)) ds).map PyData.tuple = _
    rw [g1]
    rfl
  · show PyData.depthAll qs + 1 ≤ m + 1
    omega
  · show (tupleText (PyData.shownAll qs)).length ≤ B
    have := tup_len (PyData.shownAll qs)
    omega
theorem Pl.ls (h : Pl p S M m N ds) {k : Nat} (hk : S[k]? = some (.lst ds)) (hp : k ≠ p) (hB : N + 3 ≤ B) : Vm p S M (m + 1) B (.loc k) := by
  obtain ⟨g0, qs, g1, g2, g3, g5, g4⟩ := pl_qs h.ea
  have := h.su
  have hx := Sx_at (p := p) hk hp
  refine ⟨?_, .list qs, ?_, g2, ?_, ?_, by unfold PB; exact g5⟩
  · unfold okD
    rw [hx]
  · rw [snapX_lst hx, g1]
    rfl
  · show PyData.depthAll qs + 1 ≤ m + 1
    omega
  · show (listText (PyData.shownAll qs)).length ≤ B
    have := lst_len (PyData.shownAll qs)
    omega
theorem okDs_all {T : Sto} : ∀ {ds : List D}, okDs T ds = true → ∀ d ∈ ds, okD T d = true := fun {ds} h => okDs_iff.mp h
theorem qs_pl {T : Sto} {n : Nat} : ∀ {ds : List D} {qs : List PyData}, snapL (snapX T n) ds = some qs → PyData.showableAll qs = true → PyData.depthAll qs ≤ m → PBs M qs = true → (∀ d ∈ ds, ∃ q, snapX T n d = some q ∧ q.showable = true ∧ q.depth ≤ m ∧ PB M q = true) ∧ (ds.map (szX T n)).sum = piled (PyData.shownAll qs)
  | [], qs, h, _, _, _ => by
    cases sn_nil h
    exact ⟨fun _ h => (nomatch h), rfl⟩
  | d :: ds, qs, h, hs, hd, hb => by
    obtain ⟨q, qs, h1, h2, rfl⟩ := sn_cons h
    unfold PBs at hb
    rw [Bool.and_eq_true] at hb
    obtain ⟨g1, g2⟩ := able_cons hs
    have hd : max (PyData.depth q) (PyData.depthAll qs) ≤ m := hd
    obtain ⟨c1, c2⟩ := qs_pl h2 g2 (Nat.le_trans (Nat.le_max_right _ _) hd) hb.2
    refine ⟨fun x hx => ?_, ?_⟩
    · rcases List.mem_cons.mp hx with rfl | hx
      · exact ⟨q, h1, g1, Nat.le_trans (Nat.le_max_left _ _) hd, hb.1⟩
      · exact c1 x hx
    · rw [List.map_cons, List.sum_cons, c2, sh_cons]
      unfold szX
      rw [h1]
theorem vl_pl {n : Nat} (h : Vm p S M n B (.tup ds)) : ∃ m, n = m + 1 ∧ ds.length ≤ 1000 ∧ Pl p S M m B ds := by
  obtain ⟨q, h1, h2, h3, h4, h5⟩ := h.ex
  have h1 : (snapL (snapX (Sx p S) n) ds).map PyData.tuple = some q := h1
  obtain ⟨qs, e1, rfl⟩ := map_some h1
  have h3 : PyData.depthAll qs + 1 ≤ n := h3
  have ok := h.ok
  simp only [okD, Bool.and_eq_true, decide_eq_true_eq] at ok
  cases n with
  | zero => omega
  | succ m =>
    unfold PB at h5
    obtain ⟨c1, c2⟩ := qs_pl (m := m) e1 h2 (by omega) h5
    refine ⟨m, rfl, ok.1, fun d hd => ⟨okDs_all ok.2 d hd, c1 d hd⟩, ?_⟩
    rw [c2]
    exact Nat.le_trans (sh_tuple qs) h4
theorem Pl.el (h : Pl p S M m N ds) {d : D} (hd : d ∈ ds) : Vm p S M m N d := by
  obtain ⟨o, q, h1, h2, h3, h5⟩ := h.ea d hd
  refine ⟨o, q, h1, h2, h3, ?_, h5⟩
  have hs := h.su
  have : szX (Sx p S) (m + 1) d ≤ (ds.map (szX (Sx p S) (m + 1))).sum := by
    clear hs h
    induction ds with
    | nil => cases hd
    | cons x ds ih =>
      rw [List.map_cons, List.sum_cons]
      rcases List.mem_cons.mp hd with rfl | hd
      · omega
      · have := ih hd
        omega
  unfold szX at this
  rw [h1] at this
  show q.shown.length ≤ N
  have this : q.shown.length + 2 ≤ _ := this
  have hs : _ ≤ N := hs
  unfold szX at hs
  omega
theorem Pl.one {d : D} (h : Vm p S M m B d) : Pl p S M m (B + 2) [d] := by
  obtain ⟨q, h1, h2, h3, h4, h5⟩ := h.ex
  refine ⟨fun x hx => ?_, ?_⟩
  · simp only [List.mem_cons, List.not_mem_nil, or_false] at hx
    subst hx
    exact ⟨h.ok, q, h1, h2, h3, h5⟩
  · rw [List.map_cons, List.map_nil, List.sum_cons, List.sum_nil]
    unfold szX
    rw [h1]
    show q.shown.length + 2 + 0 ≤ _
    omega
theorem Pl.app {N' : Nat} (h : Pl p S M m N ds) (g : Pl p S M m N' es) : Pl p S M m (N + N') (ds ++ es) := by
  refine ⟨fun d hd => ?_, ?_⟩
  · rcases List.mem_append.mp hd with hd | hd
    · exact h.ea d hd
    · exact g.ea d hd
  · rw [List.map_append, List.sum_append]
    exact Nat.add_le_add h.su g.su
theorem sum_take (l : List Nat) : ∀ k, (l.take k).sum ≤ l.sum := by
  induction l with
  | nil => intro k; simp
  | cons a l ih =>
    intro k
    cases k with
    | zero => simp
    | succ k =>
      rw [List.take_succ_cons, List.sum_cons, List.sum_cons]
      have := ih k
      omega
theorem sum_drop (l : List Nat) : ∀ k, (l.drop k).sum ≤ l.sum := by
  induction l with
  | nil => intro k; simp
  | cons a l ih =>
    intro k
    cases k with
    | zero => simp
    | succ k =>
      rw [List.drop_succ_cons, List.sum_cons]
      have := ih k
      omega
theorem Pl.take (h : Pl p S M m N ds) (k : Nat) : Pl p S M m N (ds.take k) := ⟨fun d hd => h.ea d (List.mem_of_mem_take hd), by
  rw [List.map_take]
  exact Nat.le_trans (sum_take _ _) h.su⟩
theorem Pl.drop (h : Pl p S M m N ds) (k : Nat) : Pl p S M m N (ds.drop k) := ⟨fun d hd => h.ea d (List.mem_of_mem_drop hd), by
  rw [List.map_drop]
  exact Nat.le_trans (sum_drop _ _) h.su⟩
theorem Pl.cut (h : Pl p S M m N ds) (lo hi : Option Int) : Pl p S M m N (Fa.cutD ds lo hi) := (h.drop _).take _
theorem Pl.rev (h : Pl p S M m N ds) : Pl p S M m N ds.reverse := ⟨fun d hd => h.ea d (List.mem_reverse.mp hd), by
  rw [List.map_reverse, List.sum_reverse]
  exact h.su⟩
theorem cut_len (ds : List D) (lo hi : Option Int) : (Fa.cutD ds lo hi).length ≤ ds.length := by
  unfold Fa.cutD
  rw [List.length_take, List.length_drop]
  omega
end
end Lw
namespace Lw
open PySem PySem.Spec PyProof.Rows L2 Fa
local macro_rules | `(tactic| walk_at "ev") => `(tactic| simp only [bK_ok, bK_err, bK_bad, bnd_ap, ret_ap, fail_ap, mVar_ap, vK_some, mC_ap, m1_ap, m2_ap, k2_ap, mNil_ap, mCons_ap, kCons_ap, kCon_ap, mA_ap, mIf_ap, kIf_t, kIf_f, tOf_ap, isBl_ap, tNt_ap, kNt_ap, tAn_ap, kAn_t, kAn_f, tOr_ap, kOr_t, kOr_f, mNot_ap, kNot_ap, mAnd_ap, kAnd_t, kAnd_f, mOr_ap, kOrV_t, kOrV_f,
  sSeq_ap, sK_nx, sK_rt, sK_bk, sK_ct, sK_ex, sK_bad, oK_ok, oK_err, oK_bad, kNx_ap, kRt_ap, sEx_ap, sRet_ap, sRetN_ap, sNx_ap, sBad_ap, sIf_ap, kIfS_t, kIfS_f, gN_ap, gT_ap, gT_tt, gTc_ap, gT0_ap, sAs_ap, kAs_ap, kAs2_ok, sPar_ap, kPar_ap, gSubD_ap, kSub1_ap, kSub2_ap, kSub3_ap, fK_nx, fK_rt, fK_ex, mLM_ap, mRng1_ap, mRng2_ap, mSrc_ap, src_t, src_r, src_s, src_k,
  mChain_ap, kCh1_ap, kCh2_ap, kCh3_t, kCh3_f, mSl_ap, kSl1_ap, kSl2_ap, mSlT_ap, kTl1_ap, kTl2_ap, mP0_ap, mP_ap, intO_ap, sl_t, dfl_ap, mTM_ap, kTM_k, kTM_t, mMeth_ap, kMe1_ap, kMe2_ap, kMe3_ap, gFld_ap, kF1_ap, gSubA_ap, kSA1_ap, kSA2_ap, sPar3_ap, kPar3_ap, mkD_ap, mkR_ok, dct0D_ap, mDisp_ap, mPairs_nil, mPairs_cons, kPr1_ap, kPr2_ap, kPr3_ap, tuple_t, list_t, mZip_ap, zip_tt,
  wipeE, nc0, nc1, nc2, nc3, nc4, nc5, nc6, nc7, nc8, nc9, nc10, nc11, nc12, nc13, nc14, nc15, Int.reduceEq, Int.reduceLE, Int.reduceLT, Int.reduceSub, Int.reduceAdd,
  fnM_ap, tupD_ap, lstD_ap, le_line, Nat.reduceLeDiff, eq_self,
  add_ii, sub_ii, neg_i, lt_ii, le_ii, gt_ii, ge_ii, isN_n, isN_i, isN_t, isN_s, isN_b, isN_l, abs_i, max_ii, min_ii, int_i, int_b, len_t, len_r, eq_ii, eq_bb, eq_ss,
  List.map_cons, List.map_nil, List.cons_append, List.nil_append, List.append_nil, List.replicate_succ, List.replicate_zero, List.length_cons, List.length_nil, Nat.reduceSub, Nat.reduceAdd, Nat.sub_self, Nat.zero_add,
  List.getElem?_cons_succ, List.getElem?_cons_zero, List.set_cons_succ, List.set_cons_zero, Bool.not_true, Bool.not_false, decide_true, decide_false, if_true, if_false, reduceIte, Bool.false_eq_true])
local macro_rules | `(tactic| walk_at "ex") => `(tactic| simp only [bK_ok, bK_err, bK_bad, bnd_ap, ret_ap, fail_ap, mVar_ap, vK_some, mC_ap, m1_ap, m2_ap, k2_ap, mNil_ap, mCons_ap, kCons_ap, kCon_ap, mA_ap, mIf_ap, kIf_t, kIf_f, tOf_ap, isBl_ap, tNt_ap, kNt_ap, kAn_t, kAn_f, tOr_ap, kOr_t, kOr_f, mNot_ap, kNot_ap, mAnd_ap, kAnd_t, kAnd_f, mOr_ap, kOrV_t, kOrV_f,
  sSeq_ap, sK_nx, sK_rt, sK_bk, sK_ct, sK_ex, sK_bad, oK_ok, oK_err, oK_bad, kNx_ap, kRt_ap, sEx_ap, sRet_ap, sRetN_ap, sNx_ap, sBad_ap, sIf_ap, kIfS_t, kIfS_f, gN_ap, gT_ap, gT_tt, gTc_ap, gT0_ap, sAs_ap, kAs_ap, kAs2_ok, sPar_ap, kPar_ap, gSubD_ap, kSub1_ap, kSub2_ap, kSub3_ap, fK_nx, fK_rt, fK_ex, mLM_ap, mRng1_ap, mRng2_ap, mSrc_ap, src_t, src_r, src_s, src_k,
  mChain_ap, kCh1_ap, kCh2_ap, kCh3_t, kCh3_f, mSl_ap, kSl1_ap, kSl2_ap, mSlT_ap, kTl1_ap, kTl2_ap, mP0_ap, mP_ap, intO_ap, sl_t, dfl_ap, mTM_ap, kTM_k, kTM_t, mMeth_ap, kMe1_ap, kMe2_ap, kMe3_ap, gFld_ap, kF1_ap, gSubA_ap, kSA1_ap, kSA2_ap, sPar3_ap, kPar3_ap, mkD_ap, mkR_ok, dct0D_ap, mDisp_ap, mPairs_nil, mPairs_cons, kPr1_ap, kPr2_ap, kPr3_ap, tuple_t, list_t, mZip_ap, zip_tt,
  wipeE, nc0, nc1, nc2, nc3, nc4, nc5, nc6, nc7, nc8, nc9, nc10, nc11, nc12, nc13, nc14, nc15, Int.reduceEq, Int.reduceLE, Int.reduceLT, Int.reduceSub, Int.reduceAdd,
  fnM_ap, tupD_ap, lstD_ap, le_line, Nat.reduceLeDiff, eq_self,
  add_ii, sub_ii, neg_i, lt_ii, le_ii, gt_ii, ge_ii, isN_n, isN_i, isN_t, isN_s, isN_b, isN_l, abs_i, max_ii, min_ii, int_i, int_b, len_t, len_r, eq_ii, eq_bb, eq_ss,
  List.map_cons, List.map_nil, List.cons_append, List.nil_append, List.append_nil, List.replicate_succ, List.replicate_zero, List.length_cons, List.length_nil, Nat.reduceSub, Nat.reduceAdd, Nat.sub_self, Nat.zero_add,
  List.getElem?_cons_succ, List.getElem?_cons_zero, List.set_cons_succ, List.set_cons_zero, Bool.not_true, Bool.not_false, decide_true, decide_false, if_true, if_false, reduceIte, Bool.false_eq_true])
/-! ### k90: odd values -/
theorem Pl.len {p M m N : Nat} {S : Sto} {ds : List D} (h : Pl p S M m N ds) : 2 * ds.length ≤ N := by
  refine Nat.le_trans ?_ h.su
  have hea := h.ea
  clear h
  induction ds with
  | nil => exact Nat.le_refl _
  | cons d ds ih =>
    obtain ⟨_, q, h1, _⟩ := hea d List.mem_cons_self
    have := ih fun x hx => hea x (List.mem_cons_of_mem _ hx)
    rw [List.map_cons, List.sum_cons, List.length_cons]
    have e : szX (Sx p S) (m + 1) d = q.shown.length + 2 := by
      unfold szX
      rw [h1]
    omega
def ob (n : Nat) : List D := [.non, .bl true, .bl false, .int 0, .int 1, .int (-1), .int (10 ^ (8 : Int).toNat), .str (tx ""), .str (tx "a"), .str (tx "A"), .str (tx "a b"), .str (tx "abcdefgh"), .str (tx "abcdefghi"), .tup [], .loc n, .loc (n + 1), .tup [.int 0, .int 0]]
theorem ob_vm {p M n : Nat} {U : Sto} (h0 : U[n]? = some (.lst [])) (h1 : U[n + 1]? = some (.dct [])) (hp : p < n) (hM : 100000000 ≤ M) : ∀ x ∈ ob n, Vm p U M 1 112 x := by
  intro x hx
  have pn : Pl p U M 0 0 [] := ⟨fun _ h => (nomatch h), Nat.le_refl _⟩
  have i0 : Vm p U M 0 12 (.int 0) := vm_sm (by decide) (by omega) (by decide)
  simp only [ob, List.mem_cons, List.not_mem_nil, or_false] at hx
  rcases hx with rfl | rfl | rfl | rfl | rfl | rfl | rfl | rfl | rfl | rfl | rfl | rfl | rfl | rfl | rfl | rfl | rfl
  · exact vm_non (by decide)
  · exact vm_bl (by decide)
  · exact vm_bl (by decide)
  · exact vm_sm (by decide) (by omega) (by decide)
  · exact vm_sm (by decide) (by omega) (by decide)
  · exact vm_sm (by decide) (by have : (-1 : Int).natAbs = 1 := rfl; omega) (by decide)
  · exact vm_sm (by decide +kernel) (by have : ((10 : Int) ^ (8 : Int).toNat).natAbs = 100000000 := by decide +kernel
                                        omega) (by decide)
  · exact vm_str (strG_of _) (by decide) (by decide)
  · exact vm_str (strG_of _) (by decide) (by decide)
  · exact vm_str (strG_of _) (by decide) (by decide)
  · exact vm_str (strG_of _) (by decide) (by decide)
  · exact vm_str (strG_of _) (by decide) (by decide)
  · exact vm_str (strG_of _) (by decide) (by decide)
  · exact pn.vl (by simp) (by decide)
  · exact pn.ls h0 (by omega) (by decide)
  · exact vm_dct0 h1 (by omega) (by decide)
  · exact ((Pl.one i0).app (Pl.one i0)).vl (by simp) (by decide)
theorem odd_end {p q c M n B : Nat} {U : Sto} {L : List D} (hP : Pot p U c) (hc : c ≤ 1000000) (hq : U[q]? = some (.lst L)) (hn : q ≠ p) (h0 : 0 < L.length) (h1 : L.length ≤ 1000) (hL : ∀ x ∈ L, Vm p U M n B x) :
    ∃ d T, gq F_l_of [.loc p, .loc q] U = .ok d T ∧ Pot p T (c + 1) ∧ Grw p U T ∧ Vm p T M n B d := by
  obtain ⟨d, x, y, z, e, hd, hP'⟩ := of_q hP hc hq hn h0 h1 fun d hd => lt_ok (hL d hd).vl.okS
  exact ⟨d, _, e, hP', Grw.set p U _, (hL d hd).gr (Grw.set p U _)⟩
theorem powC_8 : powC 10 8 = true := by decide +kernel
abbrev obS (n : Nat) : Sto := [.lst [], .dct [], .lst (ob n)]
theorem odd_1 (p : Nat) (d : D) (S : Sto) : sAs (mA lstD (mCons (mC .non) (mCons (mC (.bl true)) (mCons (mC (.bl false)) (mCons (mC (.int 0)) (mCons (mC (.int 1)) (mCons (m1 negD (mC (.int 1))) (mCons (m2 powD (mC (.int 10)) (mC (.int 8))) (mCons (mC (.str (PySem.Str.ofString ""))) (mCons (mC (.str (PySem.Str.ofString "a"))) (mCons (mC (.str (PySem.Str.ofString "A"))) (mCons (mC (.str (PySem.Str.ofString "a b"))) (mCons (mC (.str (PySem.Str.ofString "abcdefgh"))) (mCons (mC (.str (PySem.Str.ofString "abcdefghi"))) (mCons (mA tupD mNil) (mCons (mA lstD mNil) (mCons dct0D (mCons (mA tupD (mCons (mC (.int 0)) (mCons (mC (.int 0)) mNil))) mNil)))))))))))))))))) (gN 2) [some (.loc p), some d, none] S = .nx [some (.loc p), some d, some (.loc (S.length + 2))] (S ++ obS S.length) := by
  have p8 : ∀ S, powD (.int 10) (.int 8) S = .ok (.int (10 ^ (8 : Int).toNat)) S := fun S => pow_ii S _ _ powC_8
  repeat (first | simp only [p8] | walk_at "ev")
  simp only [obS, ob, List.length_append, List.append_assoc, List.length_cons, List.length_nil, List.cons_append, List.nil_append]
end Lw
namespace Lw
open PySem PySem.Spec PyProof.Rows L2 Fa
local macro_rules | `(tactic| walk_at "ev") => `(tactic| simp only [bK_ok, bK_err, bK_bad, bnd_ap, ret_ap, fail_ap, mVar_ap, vK_some, mC_ap, m1_ap, m2_ap, k2_ap, mNil_ap, mCons_ap, kCons_ap, kCon_ap, mA_ap, mIf_ap, kIf_t, kIf_f, tOf_ap, isBl_ap, tNt_ap, kNt_ap, tAn_ap, kAn_t, kAn_f, tOr_ap, kOr_t, kOr_f, mNot_ap, kNot_ap, mAnd_ap, kAnd_t, kAnd_f, mOr_ap, kOrV_t, kOrV_f,
  sSeq_ap, sK_nx, sK_rt, sK_bk, sK_ct, sK_ex, sK_bad, oK_ok, oK_err, oK_bad, kNx_ap, kRt_ap, sEx_ap, sRet_ap, sRetN_ap, sNx_ap, sBad_ap, sIf_ap, kIfS_t, kIfS_f, gN_ap, gT_ap, gT_tt, gTc_ap, gT0_ap, sAs_ap, kAs_ap, kAs2_ok, sPar_ap, kPar_ap, gSubD_ap, kSub1_ap, kSub2_ap, kSub3_ap, fK_nx, fK_rt, fK_ex, mLM_ap, mRng1_ap, mRng2_ap, mSrc_ap, src_t, src_r, src_s, src_k,
  mChain_ap, kCh1_ap, kCh2_ap, kCh3_t, kCh3_f, mSl_ap, kSl1_ap, kSl2_ap, mSlT_ap, kTl1_ap, kTl2_ap, mP0_ap, mP_ap, intO_ap, sl_t, dfl_ap, mTM_ap, kTM_k, kTM_t, mMeth_ap, kMe1_ap, kMe2_ap, kMe3_ap, gFld_ap, kF1_ap, gSubA_ap, kSA1_ap, kSA2_ap, sPar3_ap, kPar3_ap, mkD_ap, mkR_ok, dct0D_ap, mDisp_ap, mPairs_nil, mPairs_cons, kPr1_ap, kPr2_ap, kPr3_ap, tuple_t, list_t, mZip_ap, zip_tt,
  wipeE, nc0, nc1, nc2, nc3, nc4, nc5, nc6, nc7, nc8, nc9, nc10, nc11, nc12, nc13, nc14, nc15, Int.reduceEq, Int.reduceLE, Int.reduceLT, Int.reduceSub, Int.reduceAdd,
  fnM_ap, tupD_ap, lstD_ap, le_line, Nat.reduceLeDiff, eq_self,
  add_ii, sub_ii, neg_i, lt_ii, le_ii, gt_ii, ge_ii, isN_n, isN_i, isN_t, isN_s, isN_b, isN_l, abs_i, max_ii, min_ii, int_i, int_b, len_t, len_r, eq_ii, eq_bb, eq_ss,
  List.map_cons, List.map_nil, List.cons_append, List.nil_append, List.append_nil, List.replicate_succ, List.replicate_zero, List.length_cons, List.length_nil, Nat.reduceSub, Nat.reduceAdd, Nat.sub_self, Nat.zero_add,
  List.getElem?_cons_succ, List.getElem?_cons_zero, List.set_cons_succ, List.set_cons_zero, Bool.not_true, Bool.not_false, decide_true, decide_false, if_true, if_false, reduceIte, Bool.false_eq_true])
local macro_rules | `(tactic| walk_at "ex") => `(tactic| simp only [bK_ok, bK_err, bK_bad, bnd_ap, ret_ap, fail_ap, mVar_ap, vK_some, mC_ap, m1_ap, m2_ap, k2_ap, mNil_ap, mCons_ap, kCons_ap, kCon_ap, mA_ap, mIf_ap, kIf_t, kIf_f, tOf_ap, isBl_ap, tNt_ap, kNt_ap, kAn_t, kAn_f, tOr_ap, kOr_t, kOr_f, mNot_ap, kNot_ap, mAnd_ap, kAnd_t, kAnd_f, mOr_ap, kOrV_t, kOrV_f,
  sSeq_ap, sK_nx, sK_rt, sK_bk, sK_ct, sK_ex, sK_bad, oK_ok, oK_err, oK_bad, kNx_ap, kRt_ap, sEx_ap, sRet_ap, sRetN_ap, sNx_ap, sBad_ap, sIf_ap, kIfS_t, kIfS_f, gN_ap, gT_ap, gT_tt, gTc_ap, gT0_ap, sAs_ap, kAs_ap, kAs2_ok, sPar_ap, kPar_ap, gSubD_ap, kSub1_ap, kSub2_ap, kSub3_ap, fK_nx, fK_rt, fK_ex, mLM_ap, mRng1_ap, mRng2_ap, mSrc_ap, src_t, src_r, src_s, src_k,
  mChain_ap, kCh1_ap, kCh2_ap, kCh3_t, kCh3_f, mSl_ap, kSl1_ap, kSl2_ap, mSlT_ap, kTl1_ap, kTl2_ap, mP0_ap, mP_ap, intO_ap, sl_t, dfl_ap, mTM_ap, kTM_k, kTM_t, mMeth_ap, kMe1_ap, kMe2_ap, kMe3_ap, gFld_ap, kF1_ap, gSubA_ap, kSA1_ap, kSA2_ap, sPar3_ap, kPar3_ap, mkD_ap, mkR_ok, dct0D_ap, mDisp_ap, mPairs_nil, mPairs_cons, kPr1_ap, kPr2_ap, kPr3_ap, tuple_t, list_t, mZip_ap, zip_tt,
  wipeE, nc0, nc1, nc2, nc3, nc4, nc5, nc6, nc7, nc8, nc9, nc10, nc11, nc12, nc13, nc14, nc15, Int.reduceEq, Int.reduceLE, Int.reduceLT, Int.reduceSub, Int.reduceAdd,
  fnM_ap, tupD_ap, lstD_ap, le_line, Nat.reduceLeDiff, eq_self,
  add_ii, sub_ii, neg_i, lt_ii, le_ii, gt_ii, ge_ii, isN_n, isN_i, isN_t, isN_s, isN_b, isN_l, abs_i, max_ii, min_ii, int_i, int_b, len_t, len_r, eq_ii, eq_bb, eq_ss,
  List.map_cons, List.map_nil, List.cons_append, List.nil_append, List.append_nil, List.replicate_succ, List.replicate_zero, List.length_cons, List.length_nil, Nat.reduceSub, Nat.reduceAdd, Nat.sub_self, Nat.zero_add,
  List.getElem?_cons_succ, List.getElem?_cons_zero, List.set_cons_succ, List.set_cons_zero, Bool.not_true, Bool.not_false, decide_true, decide_false, if_true, if_false, reduceIte, Bool.false_eq_true])
/-! ### k90: odd values, by their kinds -/
abbrev sA : Fa.Env → Sto → Out := sIf (tOf (mA isiD (mCons (mVar 1) (mCons (mC (.ty "tuple")) mNil)))) (sAs (m2 addE (mVar 2) (m2 mulC' (mA lstD (mCons (mA listD (mCons (mVar 1) mNil)) (mCons (m2 addE (mVar 1) (mSl (mVar 1) mP0 (mP (mC (.int 1))))) (mCons (mSl (mVar 1) (mP (mC (.int 1))) mP0) (mCons (mSl (mVar 1) mP0 (mP (m1 negD (mC (.int 1))))) (mCons (m1 revD (mVar 1)) (mCons (mA tupD (mCons (mVar 1) mNil)) mNil))))))) (mC (.int 2)))) (gN 2)) sNx
abbrev sB : Fa.Env → Sto → Out := sIf (tOf (mA isiD (mCons (mVar 1) (mCons (mC (.ty "int")) mNil)))) (sAs (m2 addE (mVar 2) (mA lstD (mCons (m2 addE (mVar 1) (mC (.int 1))) (mCons (m2 subE (mC (.int 0)) (mVar 1)) (mCons (mA strD (mCons (mVar 1) mNil)) (mCons (mA tupD (mCons (mVar 1) mNil)) mNil)))))) (gN 2)) sNx
theorem addE_ll {S : Sto} {i j : Nat} {ds xs : List D} (h1 : S[i]? = some (.lst ds)) (h2 : S[j]? = some (.lst xs)) (h : ds.length + xs.length ≤ 1000) : addE (.loc i) (.loc j) S = .ok (.loc S.length) (S ++ [.lst (ds ++ xs)]) := add_ll S h1 h2 (le_line h)
theorem addE_tt (S : Sto) (a b : List D) (h : a.length + b.length ≤ 10000) : addE (.tup a) (.tup b) S = .ok (.tup (a ++ b)) S := add_tt S a b (by rw [sizeLine_eq]; omega)
theorem mul_2 {S : Sto} {n : Nat} {ds : List D} (h : S[n]? = some (.lst ds)) (hl : ds.length ≤ 500) : mulC' (.loc n) (.int 2) S = .ok (.loc S.length) (S ++ [.lst (ds ++ ds)]) := by
  unfold mulC'
  simp only [h]
  have e2 : (2 : Int).toNat = 2 := rfl
  rw [if_pos ⟨by decide, by decide, by rw [e2, sizeLine_eq]; omega⟩, e2]
  simp [List.replicate_succ]
def eT (k : Nat) (ds : List D) : List D := [.loc k, .tup (ds ++ Fa.cutD ds none (some 1)), .tup (Fa.cutD ds (some 1) none), .tup (Fa.cutD ds none (some (-1))), .tup ds.reverse, .tup [.tup ds]]
abbrev tS (n : Nat) (ds : List D) : Sto := [.lst ds, .lst (eT (n + 3) ds), .lst (eT (n + 3) ds ++ eT (n + 3) ds), .lst (ob n ++ (eT (n + 3) ds ++ eT (n + 3) ds))]
theorem odd_A {p : Nat} {ds : List D} {S : Sto} (hl : ds.length ≤ 1000) (ok : okD S (.tup ds) = true) : sA [some (.loc p), some (.tup ds), some (.loc (S.length + 2))] (S ++ obS S.length) = .nx [some (.loc p), some (.tup ds), some (.loc (S.length + 6))] (S ++ obS S.length ++ tS S.length ds) := by
  have i1 := isi_tup (okD_app (l := obS S.length) ok)
  have l1 : (S ++ obS S.length).length = S.length + 3 := by simp
  have a1 : ∀ l, (S ++ obS S.length ++ l)[S.length + 2]? = some (.lst (ob S.length)) := fun l => by
    rw [List.append_assoc, List.getElem?_append_right (by omega), Nat.add_sub_cancel_left]
    rfl
  generalize S ++ obS S.length = T at i1 l1 a1 ⊢
  have li : mA lstD (mCons (mA listD (mCons (mVar 1) mNil)) (mCons (m2 addE (mVar 1) (mSl (mVar 1) mP0 (mP (mC (.int 1))))) (mCons (mSl (mVar 1) (mP (mC (.int 1))) mP0) (mCons (mSl (mVar 1) mP0 (mP (m1 negD (mC (.int 1))))) (mCons (m1 revD (mVar 1)) (mCons (mA tupD (mCons (mVar 1) mNil)) mNil)))))) [some (.loc p), some (.tup ds), some (.loc (S.length + 2))] T = .ok (.loc (S.length + 4)) (T ++ [.lst ds, .lst (eT (S.length + 3) ds)]) := by
    have ad := fun S => addE_tt S ds (Fa.cutD ds none (some 1)) (by have := cut_len ds none (some 1); omega)
    have rv : ∀ S, revD (.tup ds) S = .ok (.tup ds.reverse) S := fun S => rfl
    repeat (first | simp only [ad, rv] | walk_at "ev")
    simp only [eT, List.length_append, List.append_assoc, List.length_cons, List.length_nil, List.cons_append, List.nil_append, l1]
  have mu := mul_2 (S := T ++ [.lst ds, .lst (eT (S.length + 3) ds)]) (n := S.length + 4) (ds := eT (S.length + 3) ds) (by rw [List.getElem?_append_right (by omega), l1]; simp) (by simp [eT])
  have ad := addE_ll (S := T ++ [.lst ds, .lst (eT (S.length + 3) ds)] ++ [.lst (eT (S.length + 3) ds ++ eT (S.length + 3) ds)]) (i := S.length + 2) (j := S.length + 5) (by rw [List.append_assoc]; exact a1 _) (xs := eT (S.length + 3) ds ++ eT (S.length + 3) ds) (by rw [List.append_assoc, List.getElem?_append_right (by omega), l1]; simp) (by simp [eT, ob])
  have le1 : (T ++ [MO.lst ds, .lst (eT (S.length + 3) ds)]).length = S.length + 5 := by rw [List.length_append, l1]; rfl
  have le2 : (T ++ [MO.lst ds, .lst (eT (S.length + 3) ds)] ++ [MO.lst (eT (S.length + 3) ds ++ eT (S.length + 3) ds)]).length = S.length + 6 := by rw [List.length_append, le1]; rfl
  rw [le1] at mu
  rw [le2] at ad
  have b : ∀ ee : Fa.Env → M D, ee [some (.loc p), some (.tup ds), some (.loc (S.length + 2))] T = .ok (.loc (S.length + 4)) (T ++ [.lst ds, .lst (eT (S.length + 3) ds)]) → sIf (tOf (mA isiD (mCons (mVar 1) (mCons (mC (.ty "tuple")) mNil)))) (sAs (m2 addE (mVar 2) (m2 mulC' ee (mC (.int 2)))) (gN 2)) sNx [some (.loc p), some (.tup ds), some (.loc (S.length + 2))] T = .nx [some (.loc p), some (.tup ds), some (.loc (S.length + 6))] (T ++ tS S.length ds) := fun ee hee => by
    repeat (first | simp only [hee, mu, ad] | walk_at "ev" | simp only [i1, isTup])
    simp [tS]
  exact b _ li
theorem odd_noA {p : Nat} {d : D} {x : Option D} {S : Sto} (ok : okD S d = true) (h : isTup d = false) : sA [some (.loc p), some d, x] S = .nx [some (.loc p), some d, x] S := by
  have i1 := isi_tup ok
  rw [h] at i1
  repeat (first | walk_at "ev" | simp only [i1])
theorem odd_noB {p : Nat} {d : D} {x : Option D} {S : Sto} (ok : okD S d = true) (h : isNum d = false) : sB [some (.loc p), some d, x] S = .nx [some (.loc p), some d, x] S := by
  have i1 := isi_int ok
  rw [h] at i1
  repeat (first | walk_at "ev" | simp only [i1])
theorem odd_B {p : Nat} {d : D} {S : Sto} {a b : Int} {s : Str} (ok : okD S d = true) (h : isNum d = true) (h1 : ∀ S, addE d (.int 1) S = .ok (.int a) S) (h2 : ∀ S, subE (.int 0) d S = .ok (.int b) S) (h3 : ∀ S, strD [d] S = .ok (.str s) S) :
    sB [some (.loc p), some d, some (.loc (S.length + 2))] (S ++ obS S.length) = .nx [some (.loc p), some d, some (.loc (S.length + 4))] (S ++ obS S.length ++ [.lst [.int a, .int b, .str s, .tup [d]], .lst (ob S.length ++ [.int a, .int b, .str s, .tup [d]])]) := by
  have i1 := isi_int (okD_app (l := obS S.length) ok)
  rw [h] at i1
  have l1 : (S ++ obS S.length).length = S.length + 3 := by simp
  have a1 : ∀ l, (S ++ obS S.length ++ l)[S.length + 2]? = some (.lst (ob S.length)) := fun l => by
    rw [List.append_assoc, List.getElem?_append_right (by omega), Nat.add_sub_cancel_left]
    rfl
  generalize S ++ obS S.length = T at i1 l1 a1 ⊢
  have ad := addE_ll (S := T ++ [.lst [.int a, .int b, .str s, .tup [d]]]) (i := S.length + 2) (j := T.length) (a1 _) (at_end T (.lst [.int a, .int b, .str s, .tup [d]])) (by simp [ob])
  have le : (T ++ [MO.lst [.int a, .int b, .str s, .tup [d]]]).length = S.length + 4 := by rw [List.length_append, l1]; rfl
  rw [le] at ad
  repeat (first | simp only [ad] | walk_at "ev" | simp only [i1, h1, h2, h3])
  simp
end Lw
namespace Lw
open PySem PySem.Spec PyProof.Rows L2 Fa
local macro_rules | `(tactic| walk_at "ev") => `(tactic| simp only [bK_ok, bK_err, bK_bad, bnd_ap, ret_ap, fail_ap, mVar_ap, vK_some, mC_ap, m1_ap, m2_ap, k2_ap, mNil_ap, mCons_ap, kCons_ap, kCon_ap, mA_ap, mIf_ap, kIf_t, kIf_f, tOf_ap, isBl_ap, tNt_ap, kNt_ap, tAn_ap, kAn_t, kAn_f, tOr_ap, kOr_t, kOr_f, mNot_ap, kNot_ap, mAnd_ap, kAnd_t, kAnd_f, mOr_ap, kOrV_t, kOrV_f,
  sSeq_ap, sK_nx, sK_rt, sK_bk, sK_ct, sK_ex, sK_bad, oK_ok, oK_err, oK_bad, kNx_ap, kRt_ap, sEx_ap, sRet_ap, sRetN_ap, sNx_ap, sBad_ap, sIf_ap, kIfS_t, kIfS_f, gN_ap, gT_ap, gT_tt, gTc_ap, gT0_ap, sAs_ap, kAs_ap, kAs2_ok, sPar_ap, kPar_ap, gSubD_ap, kSub1_ap, kSub2_ap, kSub3_ap, fK_nx, fK_rt, fK_ex, mLM_ap, mRng1_ap, mRng2_ap, mSrc_ap, src_t, src_r, src_s, src_k,
  mChain_ap, kCh1_ap, kCh2_ap, kCh3_t, kCh3_f, mSl_ap, kSl1_ap, kSl2_ap, mSlT_ap, kTl1_ap, kTl2_ap, mP0_ap, mP_ap, intO_ap, sl_t, dfl_ap, mTM_ap, kTM_k, kTM_t, mMeth_ap, kMe1_ap, kMe2_ap, kMe3_ap, gFld_ap, kF1_ap, gSubA_ap, kSA1_ap, kSA2_ap, sPar3_ap, kPar3_ap, mkD_ap, mkR_ok, dct0D_ap, mDisp_ap, mPairs_nil, mPairs_cons, kPr1_ap, kPr2_ap, kPr3_ap, tuple_t, list_t, mZip_ap, zip_tt,
  wipeE, nc0, nc1, nc2, nc3, nc4, nc5, nc6, nc7, nc8, nc9, nc10, nc11, nc12, nc13, nc14, nc15, Int.reduceEq, Int.reduceLE, Int.reduceLT, Int.reduceSub, Int.reduceAdd,
  fnM_ap, tupD_ap, lstD_ap, le_line, Nat.reduceLeDiff, eq_self,
  add_ii, sub_ii, neg_i, lt_ii, le_ii, gt_ii, ge_ii, isN_n, isN_i, isN_t, isN_s, isN_b, isN_l, abs_i, max_ii, min_ii, int_i, int_b, len_t, len_r, eq_ii, eq_bb, eq_ss,
  List.map_cons, List.map_nil, List.cons_append, List.nil_append, List.append_nil, List.replicate_succ, List.replicate_zero, List.length_cons, List.length_nil, Nat.reduceSub, Nat.reduceAdd, Nat.sub_self, Nat.zero_add,
  List.getElem?_cons_succ, List.getElem?_cons_zero, List.set_cons_succ, List.set_cons_zero, Bool.not_true, Bool.not_false, decide_true, decide_false, if_true, if_false, reduceIte, Bool.false_eq_true])
local macro_rules | `(tactic| walk_at "ex") => `(tactic| simp only [bK_ok, bK_err, bK_bad, bnd_ap, ret_ap, fail_ap, mVar_ap, vK_some, mC_ap, m1_ap, m2_ap, k2_ap, mNil_ap, mCons_ap, kCons_ap, kCon_ap, mA_ap, mIf_ap, kIf_t, kIf_f, tOf_ap, isBl_ap, tNt_ap, kNt_ap, kAn_t, kAn_f, tOr_ap, kOr_t, kOr_f, mNot_ap, kNot_ap, mAnd_ap, kAnd_t, kAnd_f, mOr_ap, kOrV_t, kOrV_f,
  sSeq_ap, sK_nx, sK_rt, sK_bk, sK_ct, sK_ex, sK_bad, oK_ok, oK_err, oK_bad, kNx_ap, kRt_ap, sEx_ap, sRet_ap, sRetN_ap, sNx_ap, sBad_ap, sIf_ap, kIfS_t, kIfS_f, gN_ap, gT_ap, gT_tt, gTc_ap, gT0_ap, sAs_ap, kAs_ap, kAs2_ok, sPar_ap, kPar_ap, gSubD_ap, kSub1_ap, kSub2_ap, kSub3_ap, fK_nx, fK_rt, fK_ex, mLM_ap, mRng1_ap, mRng2_ap, mSrc_ap, src_t, src_r, src_s, src_k,
  mChain_ap, kCh1_ap, kCh2_ap, kCh3_t, kCh3_f, mSl_ap, kSl1_ap, kSl2_ap, mSlT_ap, kTl1_ap, kTl2_ap, mP0_ap, mP_ap, intO_ap, sl_t, dfl_ap, mTM_ap, kTM_k, kTM_t, mMeth_ap, kMe1_ap, kMe2_ap, kMe3_ap, gFld_ap, kF1_ap, gSubA_ap, kSA1_ap, kSA2_ap, sPar3_ap, kPar3_ap, mkD_ap, mkR_ok, dct0D_ap, mDisp_ap, mPairs_nil, mPairs_cons, kPr1_ap, kPr2_ap, kPr3_ap, tuple_t, list_t, mZip_ap, zip_tt,
  wipeE, nc0, nc1, nc2, nc3, nc4, nc5, nc6, nc7, nc8, nc9, nc10, nc11, nc12, nc13, nc14, nc15, Int.reduceEq, Int.reduceLE, Int.reduceLT, Int.reduceSub, Int.reduceAdd,
  fnM_ap, tupD_ap, lstD_ap, le_line, Nat.reduceLeDiff, eq_self,
  add_ii, sub_ii, neg_i, lt_ii, le_ii, gt_ii, ge_ii, isN_n, isN_i, isN_t, isN_s, isN_b, isN_l, abs_i, max_ii, min_ii, int_i, int_b, len_t, len_r, eq_ii, eq_bb, eq_ss,
  List.map_cons, List.map_nil, List.cons_append, List.nil_append, List.append_nil, List.replicate_succ, List.replicate_zero, List.length_cons, List.length_nil, Nat.reduceSub, Nat.reduceAdd, Nat.sub_self, Nat.zero_add,
  List.getElem?_cons_succ, List.getElem?_cons_zero, List.set_cons_succ, List.set_cons_zero, Bool.not_true, Bool.not_false, decide_true, decide_false, if_true, if_false, reduceIte, Bool.false_eq_true])
/-! ### k90: odd values, drawn -/
theorem int_small {i : Int} (h : i.natAbs ≤ 1000000000) : i.natAbs.log2 < 1920 ∧ (ts i).length ≤ 11 := by
  have h10 : i.natAbs < 10 ^ 10 := by omega
  refine ⟨?_, ?_⟩
  · have : i.natAbs < 2 ^ 1920 := Nat.lt_of_lt_of_le h10 (by decide +kernel)
    by_cases h0 : i.natAbs = 0
    · rw [h0]; decide
    · exact (Nat.log2_lt h0).mpr this
  · have := int_text_length_le10 (a := i) (k := 10) (by decide) h10
    have e : (Str.ofString (toString i)).length = (toString i).length := by
      rw [PySem.Str.ofString_eq_toList]
      show ((toString i).toList.map Char.toNat).toArray.size = _
      rw [List.size_toArray, List.length_map]
      exact String.length_toList
    show (Str.ofString (toString i)).length ≤ 11
    rw [e]
    omega
theorem vm_abs {p M n B : Nat} {S : Sto} {i : Int} (h : Vm p S M n B (.int i)) : i.natAbs ≤ M := by
  obtain ⟨q, h1, _, _, _, h5⟩ := h.ex
  cases sn_int h1
  unfold PB at h5
  exact of_decide_eq_true h5
theorem odd_fin {p c M n B k : Nat} {d : D} {S l : Sto} {L : List D} (hp : Pot p S c) (hc : c ≤ 1000000)
    (hA : ∃ r T, sA [some (.loc p), some d, some (.loc (S.length + 2))] (S ++ obS S.length) = .nx r T ∧ sB r T = .nx [some (.loc p), some d, some (.loc (S.length + 2 + k))] (S ++ obS S.length ++ l))
    (hq : (S ++ obS S.length ++ l)[S.length + 2 + k]? = some (.lst (ob S.length ++ L))) (hl : L.length ≤ 900) (hM : 100000000 ≤ M) (hL : ∀ x ∈ L, Vm p (S ++ obS S.length ++ l) M (n + 1) (B + 120) x) :
    ∃ d' T, F_l_odd [.loc p, d] S = .ok d' T ∧ Pot p T (c + 1) ∧ Grw p S T ∧ Vm p T M (n + 1) (B + 120) d' := by
  obtain ⟨r, T, a1, a2⟩ := hA
  have hlt := hp.lt
  have gU : Grw p S (S ++ obS S.length ++ l) := (Grw.app p _ _).trans (Grw.app p _ _)
  have b0 : (S ++ obS S.length ++ l)[S.length]? = some (.lst []) := by
    rw [List.append_assoc, List.getElem?_append_right (Nat.le_refl _), Nat.sub_self]
    rfl
  have b1 : (S ++ obS S.length ++ l)[S.length + 1]? = some (.dct []) := by
    rw [List.append_assoc, List.getElem?_append_right (by omega), Nat.add_sub_cancel_left]
    rfl
  have ob1 := ob_vm b0 b1 hlt hM
  obtain ⟨d', T', e, hP, hG, hV⟩ := odd_end (n := n + 1) (B := B + 120) ((hp.app _).app l) hc hq (by omega) (by simp [ob]) (by rw [List.length_append]; have : (ob S.length).length = 17 := rfl; omega) (fun x hx => by
    rcases List.mem_append.mp hx with hx | hx
    · exact (ob1 x hx).mono (Nat.le_refl _) (by omega) (by omega)
    · exact hL x hx)
  refine ⟨d', T', ?_, hP, gU.trans hG, hV⟩
  unfold F_l_odd
  rw [fnM_ap _ _ _ _ _ (by rfl)]
  refine (congrArg fK (seq1 (odd_1 p d S) (seq1 a1 (seq1 a2 (o := .rt d' T') ?_)))).trans rfl
  repeat (first | walk_at "ev" | simp only [e])
theorem odd_ok {p c M n B : Nat} {S : Sto} {d : D} (hp : Pot p S c) (hc : c ≤ 1000000) (h : Vm p S M n B d) (hM : 100000000 ≤ M) (hM2 : M ≤ 999999990) (hB : B ≤ 1900) :
    ∃ d' T, F_l_odd [.loc p, d] S = .ok d' T ∧ Pot p T (c + 1) ∧ Grw p S T ∧ Vm p T (M + 1) (n + 1) (2 * B + 120) d' := by
  have hlt := hp.lt
  have ok := h.vl.okS
  have ok1 : okD (S ++ obS S.length) d = true := okD_app ok
  have plain : isTup d = false → isNum d = false → ∃ d' T, F_l_odd [.loc p, d] S = .ok d' T ∧ Pot p T (c + 1) ∧ Grw p S T ∧ Vm p T (M + 1) (n + 1) (2 * B + 120) d' := fun t1 t2 => by
    refine odd_fin (l := []) (L := []) (k := 0) (B := 2 * B) hp hc ⟨_, _, odd_noA ok1 t1, ?_⟩ ?_ (by simp) (by omega) (fun x hx => nomatch hx)
    · rw [List.append_nil]
      exact odd_noB ok1 t2
    · rw [List.append_nil, List.append_nil, List.getElem?_append_right (by omega)]
      show (obS S.length)[S.length + 2 + 0 - S.length]? = _
      rw [show S.length + 2 + 0 - S.length = 2 by omega]
      rfl
  have num : ∀ (a b : Int) (s : Str), isTup d = false → isNum d = true → (∀ S, addE d (.int 1) S = .ok (.int a) S) → (∀ S, subE (.int 0) d S = .ok (.int b) S) → (∀ S, strD [d] S = .ok (.str s) S) → a.natAbs ≤ M + 1 → b.natAbs ≤ M + 1 → strG s = true → s.length ≤ 11 → ∃ d' T, F_l_odd [.loc p, d] S = .ok d' T ∧ Pot p T (c + 1) ∧ Grw p S T ∧ Vm p T (M + 1) (n + 1) (2 * B + 120) d' := fun a b s t1 t2 h1 h2 h3 ha hb hs hsl => by
    have gU : Grw p S (S ++ obS S.length ++ [.lst [.int a, .int b, .str s, .tup [d]], .lst (ob S.length ++ [.int a, .int b, .str s, .tup [d]])]) := (Grw.app p _ _).trans (Grw.app p _ _)
    have h' := h.gr gU
    refine odd_fin (l := [.lst [.int a, .int b, .str s, .tup [d]], .lst (ob S.length ++ [.int a, .int b, .str s, .tup [d]])]) (L := [.int a, .int b, .str s, .tup [d]]) (k := 2) (B := 2 * B) hp hc ⟨_, _, odd_noA ok1 t1, odd_B ok t2 h1 h2 h3⟩ ?_ (by simp) (by omega) (fun x hx => ?_)
    · rw [List.append_assoc, List.getElem?_append_right (by omega), show S.length + 2 + 2 - S.length = 4 by omega]
      rfl
    · simp only [List.mem_cons, List.not_mem_nil, or_false] at hx
      rcases hx with rfl | rfl | rfl | rfl
      · exact vm_sm (by omega) ha (by omega)
      · exact vm_sm (by omega) hb (by omega)
      · exact vm_str hs (by omega) (by omega)
      · exact ((Pl.one h').vl (by simp) (B := B + 5) (by omega)).mono (by omega) (by omega) (by omega)
  cases d with
  | tup ds =>
    obtain ⟨m, rfl, hl, pl⟩ := vl_pl h
    have hlen := pl.len
    have gU : Grw p S (S ++ obS S.length ++ tS S.length ds) := (Grw.app p _ _).trans (Grw.app p _ _)
    have h' := h.gr gU
    obtain ⟨m', em, _, pl'⟩ := vl_pl h'
    obtain rfl : m' = m := by omega
    have okU : okD (S ++ obS S.length ++ tS S.length ds) (.tup ds) = true := okD_app (okD_app ok)
    refine odd_fin (l := tS S.length ds) (L := eT (S.length + 3) ds ++ eT (S.length + 3) ds) (k := 4) (B := 2 * B) hp hc ⟨_, _, odd_A hl ok, odd_noB okU rfl⟩ ?_ (by simp [eT]) (by omega) (fun x hx => ?_)
    · rw [List.append_assoc, List.getElem?_append_right (by omega), show S.length + 2 + 4 - S.length = 6 by omega]
      rfl
    · have hx : x ∈ eT (S.length + 3) ds := by
        rcases List.mem_append.mp hx with hx | hx <;> exact hx
      have at3 : (S ++ obS S.length ++ tS S.length ds)[S.length + 3]? = some (.lst ds) := by
        rw [List.append_assoc, List.getElem?_append_right (by omega), show S.length + 3 - S.length = 3 by omega]
        rfl
      have c1 : (Fa.cutD ds none (some 1)).length ≤ 1 := by
        unfold Fa.cutD
        have e : HT.sIx ds.length ds.length (some 1) = min 1 ds.length := HT.sIx_nat ds.length ds.length 1
        rw [HT.sIx_none, e, List.length_take]
        omega
      have c2 := cut_len ds (some 1) none
      have c3 := cut_len ds none (some (-1))
      simp only [eT, List.mem_cons, List.not_mem_nil, or_false] at hx
      rcases hx with rfl | rfl | rfl | rfl | rfl | rfl
      · exact (pl'.ls at3 (by omega) (B := B + 3) (Nat.le_refl _)).mono (by omega) (by omega) (by omega)
      · exact ((pl'.app (pl'.cut _ _)).vl (by rw [List.length_append]; omega) (B := 2 * B + 3) (by omega)).mono (by omega) (by omega) (by omega)
      · exact ((pl'.cut _ _).vl (by omega) (B := B + 3) (Nat.le_refl _)).mono (by omega) (by omega) (by omega)
      · exact ((pl'.cut _ _).vl (by omega) (B := B + 3) (Nat.le_refl _)).mono (by omega) (by omega) (by omega)
      · exact (pl'.rev.vl (by rw [List.length_reverse]; omega) (B := B + 3) (Nat.le_refl _)).mono (by omega) (by omega) (by omega)
      · exact ((Pl.one h').vl (by simp) (B := B + 5) (by omega)).mono (by omega) (by omega) (by omega)
  | int i =>
    have hi := vm_abs h
    obtain ⟨s1, s2⟩ := int_small (i := i) (by omega)
    exact num (i + 1) (0 - i) (ts i) rfl rfl (fun _ => rfl) (fun _ => rfl) (fun S => str_i s1 S) (by omega) (by omega) (strG_of _) s2
  | bl b =>
    refine num ((if b then 1 else 0) + 1) (0 - if b then 1 else 0) (Str.ofString (if b then "True" else "False")) rfl rfl (fun _ => rfl) (fun _ => rfl) (fun S => by cases b <;> rfl) ?_ ?_ (strG_of _) ?_ <;> cases b <;> first | decide | (simp; omega) | omega
  | non => exact plain rfl rfl
  | str x => exact plain rfl rfl
  | loc k => exact plain rfl rfl
  | _ => simp [okD] at ok
end Lw
namespace Lw
open PySem PySem.Spec PyProof.Rows L2 Fa
local macro_rules | `(tactic| walk_at "ev") => `(tactic| simp only [bK_ok, bK_err, bK_bad, bnd_ap, ret_ap, fail_ap, mVar_ap, vK_some, mC_ap, m1_ap, m2_ap, k2_ap, mNil_ap, mCons_ap, kCons_ap, kCon_ap, mA_ap, mIf_ap, kIf_t, kIf_f, tOf_ap, isBl_ap, tNt_ap, kNt_ap, tAn_ap, kAn_t, kAn_f, tOr_ap, kOr_t, kOr_f, mNot_ap, kNot_ap, mAnd_ap, kAnd_t, kAnd_f, mOr_ap, kOrV_t, kOrV_f,
  sSeq_ap, sK_nx, sK_rt, sK_bk, sK_ct, sK_ex, sK_bad, oK_ok, oK_err, oK_bad, kNx_ap, kRt_ap, sEx_ap, sRet_ap, sRetN_ap, sNx_ap, sBad_ap, sIf_ap, kIfS_t, kIfS_f, gN_ap, gT_ap, gT_tt, gTc_ap, gT0_ap, sAs_ap, kAs_ap, kAs2_ok, sPar_ap, kPar_ap, gSubD_ap, kSub1_ap, kSub2_ap, kSub3_ap, fK_nx, fK_rt, fK_ex, mLM_ap, mRng1_ap, mRng2_ap, mSrc_ap, src_t, src_r, src_s, src_k,
  mChain_ap, kCh1_ap, kCh2_ap, kCh3_t, kCh3_f, mSl_ap, kSl1_ap, kSl2_ap, mSlT_ap, kTl1_ap, kTl2_ap, mP0_ap, mP_ap, intO_ap, sl_t, dfl_ap, mTM_ap, kTM_k, kTM_t, mMeth_ap, kMe1_ap, kMe2_ap, kMe3_ap, gFld_ap, kF1_ap, gSubA_ap, kSA1_ap, kSA2_ap, sPar3_ap, kPar3_ap, mkD_ap, mkR_ok, dct0D_ap, mDisp_ap, mPairs_nil, mPairs_cons, kPr1_ap, kPr2_ap, kPr3_ap, tuple_t, list_t, mZip_ap, zip_tt,
  wipeE, nc0, nc1, nc2, nc3, nc4, nc5, nc6, nc7, nc8, nc9, nc10, nc11, nc12, nc13, nc14, nc15, Int.reduceEq, Int.reduceLE, Int.reduceLT, Int.reduceSub, Int.reduceAdd,
  fnM_ap, tupD_ap, lstD_ap, le_line, Nat.reduceLeDiff, eq_self,
  add_ii, sub_ii, neg_i, lt_ii, le_ii, gt_ii, ge_ii, isN_n, isN_i, isN_t, isN_s, isN_b, isN_l, abs_i, max_ii, min_ii, int_i, int_b, len_t, len_r, eq_ii, eq_bb, eq_ss,
  List.map_cons, List.map_nil, List.cons_append, List.nil_append, List.append_nil, List.replicate_succ, List.replicate_zero, List.length_cons, List.length_nil, Nat.reduceSub, Nat.reduceAdd, Nat.sub_self, Nat.zero_add,
  List.getElem?_cons_succ, List.getElem?_cons_zero, List.set_cons_succ, List.set_cons_zero, Bool.not_true, Bool.not_false, decide_true, decide_false, if_true, if_false, reduceIte, Bool.false_eq_true])
local macro_rules | `(tactic| walk_at "ex") => `(tactic| simp only [bK_ok, bK_err, bK_bad, bnd_ap, ret_ap, fail_ap, mVar_ap, vK_some, mC_ap, m1_ap, m2_ap, k2_ap, mNil_ap, mCons_ap, kCons_ap, kCon_ap, mA_ap, mIf_ap, kIf_t, kIf_f, tOf_ap, isBl_ap, tNt_ap, kNt_ap, kAn_t, kAn_f, tOr_ap, kOr_t, kOr_f, mNot_ap, kNot_ap, mAnd_ap, kAnd_t, kAnd_f, mOr_ap, kOrV_t, kOrV_f,
  sSeq_ap, sK_nx, sK_rt, sK_bk, sK_ct, sK_ex, sK_bad, oK_ok, oK_err, oK_bad, kNx_ap, kRt_ap, sEx_ap, sRet_ap, sRetN_ap, sNx_ap, sBad_ap, sIf_ap, kIfS_t, kIfS_f, gN_ap, gT_ap, gT_tt, gTc_ap, gT0_ap, sAs_ap, kAs_ap, kAs2_ok, sPar_ap, kPar_ap, gSubD_ap, kSub1_ap, kSub2_ap, kSub3_ap, fK_nx, fK_rt, fK_ex, mLM_ap, mRng1_ap, mRng2_ap, mSrc_ap, src_t, src_r, src_s, src_k,
  mChain_ap, kCh1_ap, kCh2_ap, kCh3_t, kCh3_f, mSl_ap, kSl1_ap, kSl2_ap, mSlT_ap, kTl1_ap, kTl2_ap, mP0_ap, mP_ap, intO_ap, sl_t, dfl_ap, mTM_ap, kTM_k, kTM_t, mMeth_ap, kMe1_ap, kMe2_ap, kMe3_ap, gFld_ap, kF1_ap, gSubA_ap, kSA1_ap, kSA2_ap, sPar3_ap, kPar3_ap, mkD_ap, mkR_ok, dct0D_ap, mDisp_ap, mPairs_nil, mPairs_cons, kPr1_ap, kPr2_ap, kPr3_ap, tuple_t, list_t, mZip_ap, zip_tt,
  wipeE, nc0, nc1, nc2, nc3, nc4, nc5, nc6, nc7, nc8, nc9, nc10, nc11, nc12, nc13, nc14, nc15, Int.reduceEq, Int.reduceLE, Int.reduceLT, Int.reduceSub, Int.reduceAdd,
  fnM_ap, tupD_ap, lstD_ap, le_line, Nat.reduceLeDiff, eq_self,
  add_ii, sub_ii, neg_i, lt_ii, le_ii, gt_ii, ge_ii, isN_n, isN_i, isN_t, isN_s, isN_b, isN_l, abs_i, max_ii, min_ii, int_i, int_b, len_t, len_r, eq_ii, eq_bb, eq_ss,
  List.map_cons, List.map_nil, List.cons_append, List.nil_append, List.append_nil, List.replicate_succ, List.replicate_zero, List.length_cons, List.length_nil, Nat.reduceSub, Nat.reduceAdd, Nat.sub_self, Nat.zero_add,
  List.getElem?_cons_succ, List.getElem?_cons_zero, List.set_cons_succ, List.set_cons_zero, Bool.not_true, Bool.not_false, decide_true, decide_false, if_true, if_false, reduceIte, Bool.false_eq_true])
/-! ### k90: bent values -/
theorem sum_split (l : List Nat) : ∀ k, k < l.length → (l.take k).sum + l.getD k 0 + (l.drop (k + 1)).sum = l.sum := by
  induction l with
  | nil => intro k h; cases h
  | cons a l ih =>
    intro k h
    cases k with
    | zero => simp
    | succ k =>
      have := ih k (by simpa using h)
      rw [List.take_succ_cons, List.sum_cons, List.sum_cons, List.drop_succ_cons]
      show a + (l.take k).sum + l.getD k 0 + _ = _
      omega
theorem Pl.split {p M m N : Nat} {S : Sto} {ds : List D} (h : Pl p S M m N ds) {k : Nat} {d : D} (hk : ds[k]? = some d) : ∃ X R, Vm p S M m X d ∧ Pl p S M m R (ds.take k ++ ds.drop (k + 1)) ∧ X + 2 + R ≤ N := by
  have hl : k < ds.length := (List.getElem?_eq_some_iff.mp hk).1
  have hd : d ∈ ds := List.mem_of_getElem? hk
  obtain ⟨o, q, h1, h2, h3, h5⟩ := h.ea d hd
  refine ⟨q.shown.length, ((ds.take k).map (szX (Sx p S) (m + 1))).sum + ((ds.drop (k + 1)).map (szX (Sx p S) (m + 1))).sum, ⟨o, q, h1, h2, h3, Nat.le_refl _, h5⟩, ⟨fun x hx => ?_, ?_⟩, ?_⟩
  · rcases List.mem_append.mp hx with hx | hx
    · exact h.ea x (List.mem_of_mem_take hx)
    · exact h.ea x (List.mem_of_mem_drop hx)
  · rw [List.map_append, List.sum_append]
    exact Nat.le_refl _
  · have e := sum_split (ds.map (szX (Sx p S) (m + 1))) k (by rw [List.length_map]; exact hl)
    have e2 : (ds.map (szX (Sx p S) (m + 1))).getD k 0 = q.shown.length + 2 := by
      rw [List.getD_eq_getElem?_getD, List.getElem?_map, hk]
      show szX (Sx p S) (m + 1) d = _
      unfold szX
      rw [h1]
    rw [e2] at e
    have := h.su
    rw [List.map_take, List.map_drop]
    omega
theorem cut_to {ds : List D} {k : Nat} (h : k < ds.length) : Fa.cutD ds none (some (k : Int)) = ds.take k := by
  unfold Fa.cutD
  rw [HT.sIx_none, HT.sIx_nat, Nat.min_eq_left (by omega)]
  simp
theorem cut_from {ds : List D} {k : Nat} (h : k < ds.length) : Fa.cutD ds (some ((k : Int) + 1)) none = ds.drop (k + 1) := by
  unfold Fa.cutD
  have e : ((k : Int) + 1) = ((k + 1 : Nat) : Int) := by omega
  rw [e, HT.sIx_none, HT.sIx_nat, Nat.min_eq_left (by omega)]
  exact List.take_of_length_le (by rw [List.length_drop]; omega)
theorem Pl.insert {p M m N X : Nat} {S : Sto} {ds : List D} {k : Nat} {d : D} (h : Pl p S M m N (ds.take k ++ ds.drop (k + 1))) (g : Vm p S M m X d) : Pl p S M m (N + X + 2) (ds.take k ++ [d] ++ ds.drop (k + 1)) := by
  have g' := Pl.one g
  refine ⟨fun x hx => ?_, ?_⟩
  · rcases List.mem_append.mp hx with hx | hx
    · rcases List.mem_append.mp hx with hx | hx
      · exact h.ea x (List.mem_append_left _ hx)
      · exact g'.ea x hx
    · exact h.ea x (List.mem_append_right _ hx)
  · have a := h.su
    have b := g'.su
    rw [List.map_append, List.sum_append] at a ⊢
    rw [List.map_append, List.sum_append]
    omega
theorem Pl.gr {p M m N : Nat} {S T : Sto} {ds : List D} (h : Pl p S M m N ds) (hl : ds.length ≤ 1000) (g : Grw p S T) : Pl p T M m (N + 3) ds := by
  obtain ⟨m', e, _, q⟩ := vl_pl ((h.vl hl (B := N + 3) (Nat.le_refl _)).gr g)
  obtain rfl : m' = m := by omega
  exact q
theorem Pl.up {p M m N M' m' : Nat} {S : Sto} {ds : List D} (h : Pl p S M m N ds) (hl : ds.length ≤ 1000) (hM : M ≤ M') (hm : m ≤ m') : Pl p S M' m' (N + 3) ds := by
  obtain ⟨m2, e, _, q⟩ := vl_pl ((h.vl hl (B := N + 3) (Nat.le_refl _)).mono hM (Nat.succ_le_succ hm) (Nat.le_refl _))
  obtain rfl : m2 = m' := by omega
  exact q
end Lw
namespace Lw
open PySem PySem.Spec PyProof.Rows L2 Fa
local macro_rules | `(tactic| walk_at "ev") => `(tactic| simp only [bK_ok, bK_err, bK_bad, bnd_ap, ret_ap, fail_ap, mVar_ap, vK_some, mC_ap, m1_ap, m2_ap, k2_ap, mNil_ap, mCons_ap, kCons_ap, kCon_ap, mA_ap, mIf_ap, kIf_t, kIf_f, tOf_ap, isBl_ap, tNt_ap, kNt_ap, tAn_ap, kAn_t, kAn_f, tOr_ap, kOr_t, kOr_f, mNot_ap, kNot_ap, mAnd_ap, kAnd_t, kAnd_f, mOr_ap, kOrV_t, kOrV_f,
  sSeq_ap, sK_nx, sK_rt, sK_bk, sK_ct, sK_ex, sK_bad, oK_ok, oK_err, oK_bad, kNx_ap, kRt_ap, sEx_ap, sRet_ap, sRetN_ap, sNx_ap, sBad_ap, sIf_ap, kIfS_t, kIfS_f, gN_ap, gT_ap, gT_tt, gTc_ap, gT0_ap, sAs_ap, kAs_ap, kAs2_ok, sPar_ap, kPar_ap, gSubD_ap, kSub1_ap, kSub2_ap, kSub3_ap, fK_nx, fK_rt, fK_ex, mLM_ap, mRng1_ap, mRng2_ap, mSrc_ap, src_t, src_r, src_s, src_k,
  mChain_ap, kCh1_ap, kCh2_ap, kCh3_t, kCh3_f, mSl_ap, kSl1_ap, kSl2_ap, mSlT_ap, kTl1_ap, kTl2_ap, mP0_ap, mP_ap, intO_ap, sl_t, dfl_ap, mTM_ap, kTM_k, kTM_t, mMeth_ap, kMe1_ap, kMe2_ap, kMe3_ap, gFld_ap, kF1_ap, gSubA_ap, kSA1_ap, kSA2_ap, sPar3_ap, kPar3_ap, mkD_ap, mkR_ok, dct0D_ap, mDisp_ap, mPairs_nil, mPairs_cons, kPr1_ap, kPr2_ap, kPr3_ap, tuple_t, list_t, mZip_ap, zip_tt,
  wipeE, nc0, nc1, nc2, nc3, nc4, nc5, nc6, nc7, nc8, nc9, nc10, nc11, nc12, nc13, nc14, nc15, Int.reduceEq, Int.reduceLE, Int.reduceLT, Int.reduceSub, Int.reduceAdd,
  fnM_ap, tupD_ap, lstD_ap, le_line, Nat.reduceLeDiff, eq_self,
  add_ii, sub_ii, neg_i, lt_ii, le_ii, gt_ii, ge_ii, isN_n, isN_i, isN_t, isN_s, isN_b, isN_l, abs_i, max_ii, min_ii, int_i, int_b, len_t, len_r, eq_ii, eq_bb, eq_ss,
  List.map_cons, List.map_nil, List.cons_append, List.nil_append, List.append_nil, List.replicate_succ, List.replicate_zero, List.length_cons, List.length_nil, Nat.reduceSub, Nat.reduceAdd, Nat.sub_self, Nat.zero_add,
  List.getElem?_cons_succ, List.getElem?_cons_zero, List.set_cons_succ, List.set_cons_zero, Bool.not_true, Bool.not_false, decide_true, decide_false, if_true, if_false, reduceIte, Bool.false_eq_true])
local macro_rules | `(tactic| walk_at "ex") => `(tactic| simp only [bK_ok, bK_err, bK_bad, bnd_ap, ret_ap, fail_ap, mVar_ap, vK_some, mC_ap, m1_ap, m2_ap, k2_ap, mNil_ap, mCons_ap, kCons_ap, kCon_ap, mA_ap, mIf_ap, kIf_t, kIf_f, tOf_ap, isBl_ap, tNt_ap, kNt_ap, kAn_t, kAn_f, tOr_ap, kOr_t, kOr_f, mNot_ap, kNot_ap, mAnd_ap, kAnd_t, kAnd_f, mOr_ap, kOrV_t, kOrV_f,
  sSeq_ap, sK_nx, sK_rt, sK_bk, sK_ct, sK_ex, sK_bad, oK_ok, oK_err, oK_bad, kNx_ap, kRt_ap, sEx_ap, sRet_ap, sRetN_ap, sNx_ap, sBad_ap, sIf_ap, kIfS_t, kIfS_f, gN_ap, gT_ap, gT_tt, gTc_ap, gT0_ap, sAs_ap, kAs_ap, kAs2_ok, sPar_ap, kPar_ap, gSubD_ap, kSub1_ap, kSub2_ap, kSub3_ap, fK_nx, fK_rt, fK_ex, mLM_ap, mRng1_ap, mRng2_ap, mSrc_ap, src_t, src_r, src_s, src_k,
  mChain_ap, kCh1_ap, kCh2_ap, kCh3_t, kCh3_f, mSl_ap, kSl1_ap, kSl2_ap, mSlT_ap, kTl1_ap, kTl2_ap, mP0_ap, mP_ap, intO_ap, sl_t, dfl_ap, mTM_ap, kTM_k, kTM_t, mMeth_ap, kMe1_ap, kMe2_ap, kMe3_ap, gFld_ap, kF1_ap, gSubA_ap, kSA1_ap, kSA2_ap, sPar3_ap, kPar3_ap, mkD_ap, mkR_ok, dct0D_ap, mDisp_ap, mPairs_nil, mPairs_cons, kPr1_ap, kPr2_ap, kPr3_ap, tuple_t, list_t, mZip_ap, zip_tt,
  wipeE, nc0, nc1, nc2, nc3, nc4, nc5, nc6, nc7, nc8, nc9, nc10, nc11, nc12, nc13, nc14, nc15, Int.reduceEq, Int.reduceLE, Int.reduceLT, Int.reduceSub, Int.reduceAdd,
  fnM_ap, tupD_ap, lstD_ap, le_line, Nat.reduceLeDiff, eq_self,
  add_ii, sub_ii, neg_i, lt_ii, le_ii, gt_ii, ge_ii, isN_n, isN_i, isN_t, isN_s, isN_b, isN_l, abs_i, max_ii, min_ii, int_i, int_b, len_t, len_r, eq_ii, eq_bb, eq_ss,
  List.map_cons, List.map_nil, List.cons_append, List.nil_append, List.append_nil, List.replicate_succ, List.replicate_zero, List.length_cons, List.length_nil, Nat.reduceSub, Nat.reduceAdd, Nat.sub_self, Nat.zero_add,
  List.getElem?_cons_succ, List.getElem?_cons_zero, List.set_cons_succ, List.set_cons_zero, Bool.not_true, Bool.not_false, decide_true, decide_false, if_true, if_false, reduceIte, Bool.false_eq_true])
/-! ### k90: bent values, drawn -/
noncomputable abbrev cE : Fa.Env → M Bool := Fa.tOr (tOf (m2 (eqB false) (mVar 2) (mC (.int 0)))) (Fa.tOr (tNt (tOf (mA isiD (mCons (mVar 1) (mCons (mC (.ty "tuple")) mNil))))) (Fa.tOr (tOf (m2 eqE (mVar 1) (mA tupD mNil))) (tOf (m2 (eqB false) (mA (gq F_l_take) (mCons (mVar 0) (mCons (mC (.int 5)) mNil))) (mC (.int 0))))))
theorem bent_odd {p k c M n B N : Nat} {S T : Sto} {d : D} {j : Int} (hC : cE [some (.loc p), some d, some (.int j), none] S = .ok true T) (hP : Pot p T c) (hc : c ≤ 1000000) (g : Grw p S T) (h : Vm p S M n B d) (hM : 100000000 ≤ M) (hM2 : M ≤ 999999990) (hB : B ≤ 1900) (hN : 2 * B + 120 ≤ N) :
    ∃ d' U, F_l_bent (k + 1) [.loc p, d, .int j] S = .ok d' U ∧ Pot p U (c + 1) ∧ Grw p S U ∧ Vm p U (M + 1) (n + 1) N d' := by
  obtain ⟨d', U, e, hP', g', h'⟩ := odd_ok hP hc (h.gr g) hM hM2 hB
  refine ⟨d', U, ?_, hP', g.trans g', h'.mono (Nat.le_refl _) (Nat.le_refl _) hN⟩
  rw [F_l_bent, fnM_ap _ _ _ _ _ (by rfl)]
  have s1 : sIf cE (sRet (mA F_l_odd (mCons (mVar 0) (mCons (mVar 1) mNil)))) sNx [some (.loc p), some d, some (.int j), none] S = .rt d' U := by
    rw [sIf_ap, hC]
    repeat (first | walk_at "ev" | simp only [e])
  refine (congrArg fK (?_ : _ = Out.rt d' U)).trans rfl
  rw [sSeq_ap]
  show sK (sIf cE _ _ [some (.loc p), some d, some (.int j), none] S) _ = _
  rw [s1]
  rfl
theorem bent_ok {p M : Nat} (hM : 100000000 ≤ M) (hM2 : M ≤ 999999990) : ∀ (j k n B c : Nat) {S : Sto} {d : D}, j < k → Pot p S c → c + 3 * j ≤ 900000 → Vm p S M n B d → B ≤ 1900 →
    ∃ d' T, F_l_bent k [.loc p, d, .int (j : Int)] S = .ok d' T ∧ Pot p T (c + 3 * j + 2) ∧ Grw p S T ∧ Vm p T (M + 1) (n + 1) (2 * B + 120 + 12 * j) d'
  | j, 0, _, _, _, _, _, hj, _, _, _, _ => absurd hj (Nat.not_lt_zero _)
  | 0, k + 1, n, B, c, S, d, _, hP, hc, h, hB => by
    have hC : cE [some (.loc p), some d, some (.int ((0 : Nat) : Int)), none] S = .ok true S := by
      have e : eqB false (.int ((0 : Nat) : Int)) (.int 0) S = .ok (.bl true) S := rfl
      repeat (first | simp only [e] | walk_at "ev")
    obtain ⟨d', U, e, h1, h2, h3⟩ := bent_odd (k := k) hC hP (by omega) (Grw.refl p S) h hM hM2 hB (Nat.le_refl _)
    exact ⟨d', U, e, h1.mono (by omega), h2, h3⟩
  | j + 1, k + 1, n, B, c, S, d, hj, hP, hc, h, hB => by
    have ok := h.vl.okS
    have hpl := hP.lt
    generalize hJ : ((j + 1 : Nat) : Int) = J
    have hJ1 : J - 1 = (j : Int) := by omega
    have e0 : eqB false (.int J) (.int 0) S = .ok (.bl false) S := by
      show Res.ok (D.bl (decide (J = 0))) S = _
      rw [decide_eq_false (by omega)]
    have e0' : decide (J = 0) = false := decide_eq_false (by omega)
    have i1 := isi_tup ok
    cases et : isTup d with
    | false =>
      rw [et] at i1
      have hC : cE [some (.loc p), some d, some (.int J), none] S = .ok true S := by
        repeat (first | simp only [e0] | walk_at "ev" | simp only [i1, e0'])
      obtain ⟨d', U, e, h1, h2, h3⟩ := bent_odd (k := k) hC hP (by omega) (Grw.refl p S) h hM hM2 hB (Nat.le_refl _)
      exact ⟨d', U, e, h1.mono (by omega), h2, h3.mono (Nat.le_refl _) (Nat.le_refl _) (by omega)⟩
    | true =>
      rw [et] at i1
      obtain ⟨ds, rfl⟩ := isTup_of et
      by_cases hd0 : ds = []
      · subst hd0
        have hC : cE [some (.loc p), some (.tup []), some (.int J), none] S = .ok true S := by
          have ee := eqE_t [] S
          have en : ([] : List D).isEmpty = true := rfl
          repeat (first | simp only [e0] | walk_at "ev" | simp only [i1, e0', ee, en])
        obtain ⟨d', U, e, h1, h2, h3⟩ := bent_odd (k := k) hC hP (by omega) (Grw.refl p S) h hM hM2 hB (Nat.le_refl _)
        exact ⟨d', U, e, h1.mono (by omega), h2, h3.mono (Nat.le_refl _) (Nat.le_refl _) (by omega)⟩
      · have ee := eqE_t ds S
        have en : ds.isEmpty = false := by
          cases ds with
          | nil => exact absurd rfl hd0
          | cons _ _ => rfl
        rw [en] at ee
        obtain ⟨v, x, y, z, q1, v0, v1, hP1⟩ := take_q (n := 5) hP (by omega) (by decide) (by decide)
        have g1 := Grw.set p S (il x y z)
        generalize S.set p (il x y z) = S1 at q1 hP1 g1
        have hC : cE [some (.loc p), some (.tup ds), some (.int J), none] S = .ok (decide (v = 0)) S1 := by
          have ev : eqB false (.int v) (.int 0) S1 = .ok (.bl (decide (v = 0))) S1 := rfl
          repeat (first | simp only [e0] | walk_at "ev" | simp only [i1, e0', ee, q1])
        by_cases hv : v = 0
        · rw [decide_eq_true hv] at hC
          obtain ⟨d', U, e, h1, h2, h3⟩ := bent_odd (k := k) hC hP1 (by omega) g1 h hM hM2 hB (Nat.le_refl _)
          exact ⟨d', U, e, h1.mono (by omega), h2, h3.mono (Nat.le_refl _) (Nat.le_refl _) (by omega)⟩
        · rw [decide_eq_false hv] at hC
          obtain ⟨m, rfl, hl, pl⟩ := vl_pl h
          have hlen := pl.len
          have hpos : 0 < ds.length := List.length_pos_iff.mpr hd0
          obtain ⟨w, x, y, z, q2, w0, w1, hP2⟩ := take_q (n := ds.length) hP1 (by omega) (by omega) (by omega)
          have g2 := Grw.set p S1 (il x y z)
          generalize S1.set p (il x y z) = S2 at q2 hP2 g2
          obtain ⟨a, rfl⟩ := Int.eq_ofNat_of_zero_le w0
          have ha : a < ds.length := by omega
          have hk : ds[a]? = some ds[a] := List.getElem?_eq_getElem ha
          generalize ds[a] = u at hk
          obtain ⟨X, R, hX, hR, hXR⟩ := pl.split hk
          have gS := g1.trans g2
          obtain ⟨u', T, q3, hP3, g3, hV⟩ := bent_ok hM hM2 j k m X (c + 1 + 1) (S := S2) (d := u) (by omega) hP2 (by omega) (hX.gr gS) (by omega)
          have lr : (ds.take a ++ ds.drop (a + 1)).length ≤ 1000 := by
            rw [List.length_append, List.length_take, List.length_drop]
            omega
          have hR' := (hR.gr lr (gS.trans g3)).up lr (M' := M + 1) (m' := m + 1) (by omega) (by omega)
          have ins := hR'.insert hV
          have li : (ds.take a ++ [u'] ++ ds.drop (a + 1)).length ≤ 1000 := by
            rw [List.length_append, List.length_append, List.length_take, List.length_drop]
            show _ + 1 + _ ≤ _
            omega
          refine ⟨.tup (ds.take a ++ [u'] ++ ds.drop (a + 1)), T, ?_, hP3.mono (by omega), gS.trans g3, ins.vl li (by omega)⟩
          rw [F_l_bent, fnM_ap _ _ _ _ _ (by rfl)]
          have s1 : sIf cE (sRet (mA F_l_odd (mCons (mVar 0) (mCons (mVar 1) mNil)))) sNx [some (.loc p), some (.tup ds), some (.int J), none] S = .nx [some (.loc p), some (.tup ds), some (.int J), none] S1 := by
            rw [sIf_ap, hC]
            rfl
          have s2 : sAs (mA (gq F_l_take) (mCons (mVar 0) (mCons (mA lenD (mCons (mVar 1) mNil)) mNil))) (gN 3) [some (.loc p), some (.tup ds), some (.int J), none] S1 = .nx [some (.loc p), some (.tup ds), some (.int J), some (.int (a : Int))] S2 := by
            repeat (first | walk_at "ev" | simp only [q2])
          refine (congrArg fK (seq1 s1 (seq1 s2 (o := .rt (.tup (ds.take a ++ [u'] ++ ds.drop (a + 1))) T) ?_))).trans rfl
          have ix : ixD (.tup ds) (.int (a : Int)) S2 = .ok u S2 := ix_t S2 (atI_nat hk)
          have c1 := cut_to ha
          have c2 := cut_from ha
          have lt1 : (ds.take a).length ≤ 1000 := by rw [List.length_take]; omega
          have ad1 : ∀ S, addD (.tup (ds.take a)) (.tup [u']) S = .ok (.tup (ds.take a ++ [u'])) S := fun S => add_tt S _ _ (by rw [sizeLine_eq]; show _ + 1 ≤ _; omega)
          have ad2 : ∀ S, addD (.tup (ds.take a ++ [u'])) (.tup (ds.drop (a + 1))) S = .ok (.tup (ds.take a ++ [u'] ++ ds.drop (a + 1))) S := fun S => add_tt S _ _ (by rw [sizeLine_eq, List.length_append, List.length_drop]; show _ + 1 + _ ≤ _; omega)
          repeat (first | simp only [c1, c2, ad1, ad2] | walk_at "ev" | simp only [ix, hJ1, q3])
end Lw
namespace Lw
open PySem PySem.Spec PyProof.Rows L2 Fa
local macro_rules | `(tactic| walk_at "ev") => `(tactic| simp only [bK_ok, bK_err, bK_bad, bnd_ap, ret_ap, fail_ap, mVar_ap, vK_some, mC_ap, m1_ap, m2_ap, k2_ap, mNil_ap, mCons_ap, kCons_ap, kCon_ap, mA_ap, mIf_ap, kIf_t, kIf_f, tOf_ap, isBl_ap, tNt_ap, kNt_ap, tAn_ap, kAn_t, kAn_f, tOr_ap, kOr_t, kOr_f, mNot_ap, kNot_ap, mAnd_ap, kAnd_t, kAnd_f, mOr_ap, kOrV_t, kOrV_f,
  sSeq_ap, sK_nx, sK_rt, sK_bk, sK_ct, sK_ex, sK_bad, oK_ok, oK_err, oK_bad, kNx_ap, kRt_ap, sEx_ap, sRet_ap, sRetN_ap, sNx_ap, sBad_ap, sIf_ap, kIfS_t, kIfS_f, gN_ap, gT_ap, gT_tt, gTc_ap, gT0_ap, sAs_ap, kAs_ap, kAs2_ok, sPar_ap, kPar_ap, gSubD_ap, kSub1_ap, kSub2_ap, kSub3_ap, fK_nx, fK_rt, fK_ex, mLM_ap, mRng1_ap, mRng2_ap, mSrc_ap, src_t, src_r, src_s, src_k,
  mChain_ap, kCh1_ap, kCh2_ap, kCh3_t, kCh3_f, mSl_ap, kSl1_ap, kSl2_ap, mSlT_ap, kTl1_ap, kTl2_ap, mP0_ap, mP_ap, intO_ap, sl_t, dfl_ap, mTM_ap, kTM_k, kTM_t, mMeth_ap, kMe1_ap, kMe2_ap, kMe3_ap, gFld_ap, kF1_ap, gSubA_ap, kSA1_ap, kSA2_ap, sPar3_ap, kPar3_ap, mkD_ap, mkR_ok, dct0D_ap, mDisp_ap, mPairs_nil, mPairs_cons, kPr1_ap, kPr2_ap, kPr3_ap, tuple_t, list_t, mZip_ap, zip_tt,
  wipeE, nc0, nc1, nc2, nc3, nc4, nc5, nc6, nc7, nc8, nc9, nc10, nc11, nc12, nc13, nc14, nc15, Int.reduceEq, Int.reduceLE, Int.reduceLT, Int.reduceSub, Int.reduceAdd,
  fnM_ap, tupD_ap, lstD_ap, le_line, Nat.reduceLeDiff, eq_self,
  add_ii, sub_ii, neg_i, lt_ii, le_ii, gt_ii, ge_ii, isN_n, isN_i, isN_t, isN_s, isN_b, isN_l, abs_i, max_ii, min_ii, int_i, int_b, len_t, len_r, eq_ii, eq_bb, eq_ss,
  List.map_cons, List.map_nil, List.cons_append, List.nil_append, List.append_nil, List.replicate_succ, List.replicate_zero, List.length_cons, List.length_nil, Nat.reduceSub, Nat.reduceAdd, Nat.sub_self, Nat.zero_add,
  List.getElem?_cons_succ, List.getElem?_cons_zero, List.set_cons_succ, List.set_cons_zero, Bool.not_true, Bool.not_false, decide_true, decide_false, if_true, if_false, reduceIte, Bool.false_eq_true])
local macro_rules | `(tactic| walk_at "ex") => `(tactic| simp only [bK_ok, bK_err, bK_bad, bnd_ap, ret_ap, fail_ap, mVar_ap, vK_some, mC_ap, m1_ap, m2_ap, k2_ap, mNil_ap, mCons_ap, kCons_ap, kCon_ap, mA_ap, mIf_ap, kIf_t, kIf_f, tOf_ap, isBl_ap, tNt_ap, kNt_ap, kAn_t, kAn_f, tOr_ap, kOr_t, kOr_f, mNot_ap, kNot_ap, mAnd_ap, kAnd_t, kAnd_f, mOr_ap, kOrV_t, kOrV_f,
  sSeq_ap, sK_nx, sK_rt, sK_bk, sK_ct, sK_ex, sK_bad, oK_ok, oK_err, oK_bad, kNx_ap, kRt_ap, sEx_ap, sRet_ap, sRetN_ap, sNx_ap, sBad_ap, sIf_ap, kIfS_t, kIfS_f, gN_ap, gT_ap, gT_tt, gTc_ap, gT0_ap, sAs_ap, kAs_ap, kAs2_ok, sPar_ap, kPar_ap, gSubD_ap, kSub1_ap, kSub2_ap, kSub3_ap, fK_nx, fK_rt, fK_ex, mLM_ap, mRng1_ap, mRng2_ap, mSrc_ap, src_t, src_r, src_s, src_k,
  mChain_ap, kCh1_ap, kCh2_ap, kCh3_t, kCh3_f, mSl_ap, kSl1_ap, kSl2_ap, mSlT_ap, kTl1_ap, kTl2_ap, mP0_ap, mP_ap, intO_ap, sl_t, dfl_ap, mTM_ap, kTM_k, kTM_t, mMeth_ap, kMe1_ap, kMe2_ap, kMe3_ap, gFld_ap, kF1_ap, gSubA_ap, kSA1_ap, kSA2_ap, sPar3_ap, kPar3_ap, mkD_ap, mkR_ok, dct0D_ap, mDisp_ap, mPairs_nil, mPairs_cons, kPr1_ap, kPr2_ap, kPr3_ap, tuple_t, list_t, mZip_ap, zip_tt,
  wipeE, nc0, nc1, nc2, nc3, nc4, nc5, nc6, nc7, nc8, nc9, nc10, nc11, nc12, nc13, nc14, nc15, Int.reduceEq, Int.reduceLE, Int.reduceLT, Int.reduceSub, Int.reduceAdd,
  fnM_ap, tupD_ap, lstD_ap, le_line, Nat.reduceLeDiff, eq_self,
  add_ii, sub_ii, neg_i, lt_ii, le_ii, gt_ii, ge_ii, isN_n, isN_i, isN_t, isN_s, isN_b, isN_l, abs_i, max_ii, min_ii, int_i, int_b, len_t, len_r, eq_ii, eq_bb, eq_ss,
  List.map_cons, List.map_nil, List.cons_append, List.nil_append, List.append_nil, List.replicate_succ, List.replicate_zero, List.length_cons, List.length_nil, Nat.reduceSub, Nat.reduceAdd, Nat.sub_self, Nat.zero_add,
  List.getElem?_cons_succ, List.getElem?_cons_zero, List.set_cons_succ, List.set_cons_zero, Bool.not_true, Bool.not_false, decide_true, decide_false, if_true, if_false, reduceIte, Bool.false_eq_true])
/-! ### k90: drawn deeds -/
theorem take_lit {p c : Nat} {S : Sto} {r : Fa.Env} {n : Int} (hv : ∀ T, mVar 0 r T = .ok (.loc p) T) (hP : Pot p S c) (hc : c ≤ 1000000) (h0 : 0 < n) (h1 : n < 1073741824) :
    ∃ v T, mA (gq F_l_take) (mCons (mVar 0) (mCons (mC (.int n)) mNil)) r S = .ok (.int v) T ∧ 0 ≤ v ∧ v < n ∧ Pot p T (c + 1) ∧ Grw p S T := by
  obtain ⟨v, x, y, z, e, v0, v1, hP'⟩ := take_q hP hc h0 h1
  refine ⟨v, S.set p (il x y z), ?_, v0, v1, hP', Grw.set p S _⟩
  rw [mA_ap, mCons_ap, hv, bK_ok, kCons_ap, mCons_ap, mC_ap, bK_ok, kCons_ap, mNil_ap, bK_ok, kCon_ap, bK_ok, kCon_ap, bK_ok, e]
theorem of_lit {p c : Nat} {S : Sto} {r : Fa.Env} {L : List D} {m : Fa.Env → M (List D)} (hv : ∀ T, mVar 0 r T = .ok (.loc p) T) (hm : m r S = .ok L S) (hP : Pot p S c) (hc : c ≤ 1000000) (h0 : 0 < L.length) (h1 : L.length ≤ 1000) (hl : ∀ d ∈ L, okD [] d = true) :
    ∃ d T, mA (gq F_l_of) (mCons (mVar 0) (mCons (mA lstD m) mNil)) r S = .ok d T ∧ d ∈ L ∧ Pot p T (c + 1) ∧ Grw p S T := by
  have hlt := hP.lt
  obtain ⟨d, x, y, z, e, hd, hP'⟩ := of_q (S := S ++ [.lst L]) (hP.app _) hc (at_end S (.lst L)) (by omega) h0 h1 (fun d hd => by
    have := okD_app (S := []) (l := S ++ [.lst L]) (hl d hd)
    rw [List.nil_append] at this
    exact lt_ok this)
  refine ⟨d, _, ?_, hd, hP', (Grw.app p _ _).trans (Grw.set p _ _)⟩
  rw [mA_ap, mCons_ap, hv, bK_ok, kCons_ap, mCons_ap, mA_ap, hm, bK_ok, lstD_ap _ _ (le_line h1), bK_ok, kCons_ap, mNil_ap, bK_ok, kCon_ap, bK_ok, kCon_ap, bK_ok, e]
end Lw
namespace Lw
open PySem PySem.Spec PyProof.Rows L2 Fa
local macro_rules | `(tactic| walk_at "ev") => `(tactic| simp only [bK_ok, bK_err, bK_bad, bnd_ap, ret_ap, fail_ap, mVar_ap, vK_some, mC_ap, m1_ap, m2_ap, k2_ap, mNil_ap, mCons_ap, kCons_ap, kCon_ap, mA_ap, mIf_ap, kIf_t, kIf_f, tOf_ap, isBl_ap, tNt_ap, kNt_ap, tAn_ap, kAn_t, kAn_f, tOr_ap, kOr_t, kOr_f, mNot_ap, kNot_ap, mAnd_ap, kAnd_t, kAnd_f, mOr_ap, kOrV_t, kOrV_f,
  sSeq_ap, sK_nx, sK_rt, sK_bk, sK_ct, sK_ex, sK_bad, oK_ok, oK_err, oK_bad, kNx_ap, kRt_ap, sEx_ap, sRet_ap, sRetN_ap, sNx_ap, sBad_ap, sIf_ap, kIfS_t, kIfS_f, gN_ap, gT_ap, gT_tt, gTc_ap, gT0_ap, sAs_ap, kAs_ap, kAs2_ok, sPar_ap, kPar_ap, gSubD_ap, kSub1_ap, kSub2_ap, kSub3_ap, fK_nx, fK_rt, fK_ex, mLM_ap, mRng1_ap, mRng2_ap, mSrc_ap, src_t, src_r, src_s, src_k,
  mChain_ap, kCh1_ap, kCh2_ap, kCh3_t, kCh3_f, mSl_ap, kSl1_ap, kSl2_ap, mSlT_ap, kTl1_ap, kTl2_ap, mP0_ap, mP_ap, intO_ap, sl_t, dfl_ap, mTM_ap, kTM_k, kTM_t, mMeth_ap, kMe1_ap, kMe2_ap, kMe3_ap, gFld_ap, kF1_ap, gSubA_ap, kSA1_ap, kSA2_ap, sPar3_ap, kPar3_ap, mkD_ap, mkR_ok, dct0D_ap, mDisp_ap, mPairs_nil, mPairs_cons, kPr1_ap, kPr2_ap, kPr3_ap, tuple_t, list_t, mZip_ap, zip_tt,
  wipeE, nc0, nc1, nc2, nc3, nc4, nc5, nc6, nc7, nc8, nc9, nc10, nc11, nc12, nc13, nc14, nc15, Int.reduceEq, Int.reduceLE, Int.reduceLT, Int.reduceSub, Int.reduceAdd,
  fnM_ap, tupD_ap, lstD_ap, le_line, Nat.reduceLeDiff, eq_self,
  add_ii, sub_ii, neg_i, lt_ii, le_ii, gt_ii, ge_ii, isN_n, isN_i, isN_t, isN_s, isN_b, isN_l, abs_i, max_ii, min_ii, int_i, int_b, len_t, len_r, eq_ii, eq_bb, eq_ss,
  List.map_cons, List.map_nil, List.cons_append, List.nil_append, List.append_nil, List.replicate_succ, List.replicate_zero, List.length_cons, List.length_nil, Nat.reduceSub, Nat.reduceAdd, Nat.sub_self, Nat.zero_add,
  List.getElem?_cons_succ, List.getElem?_cons_zero, List.set_cons_succ, List.set_cons_zero, Bool.not_true, Bool.not_false, decide_true, decide_false, if_true, if_false, reduceIte, Bool.false_eq_true])
local macro_rules | `(tactic| walk_at "ex") => `(tactic| simp only [bK_ok, bK_err, bK_bad, bnd_ap, ret_ap, fail_ap, mVar_ap, vK_some, mC_ap, m1_ap, m2_ap, k2_ap, mNil_ap, mCons_ap, kCons_ap, kCon_ap, mA_ap, mIf_ap, kIf_t, kIf_f, tOf_ap, isBl_ap, tNt_ap, kNt_ap, kAn_t, kAn_f, tOr_ap, kOr_t, kOr_f, mNot_ap, kNot_ap, mAnd_ap, kAnd_t, kAnd_f, mOr_ap, kOrV_t, kOrV_f,
  sSeq_ap, sK_nx, sK_rt, sK_bk, sK_ct, sK_ex, sK_bad, oK_ok, oK_err, oK_bad, kNx_ap, kRt_ap, sEx_ap, sRet_ap, sRetN_ap, sNx_ap, sBad_ap, sIf_ap, kIfS_t, kIfS_f, gN_ap, gT_ap, gT_tt, gTc_ap, gT0_ap, sAs_ap, kAs_ap, kAs2_ok, sPar_ap, kPar_ap, gSubD_ap, kSub1_ap, kSub2_ap, kSub3_ap, fK_nx, fK_rt, fK_ex, mLM_ap, mRng1_ap, mRng2_ap, mSrc_ap, src_t, src_r, src_s, src_k,
  mChain_ap, kCh1_ap, kCh2_ap, kCh3_t, kCh3_f, mSl_ap, kSl1_ap, kSl2_ap, mSlT_ap, kTl1_ap, kTl2_ap, mP0_ap, mP_ap, intO_ap, sl_t, dfl_ap, mTM_ap, kTM_k, kTM_t, mMeth_ap, kMe1_ap, kMe2_ap, kMe3_ap, gFld_ap, kF1_ap, gSubA_ap, kSA1_ap, kSA2_ap, sPar3_ap, kPar3_ap, mkD_ap, mkR_ok, dct0D_ap, mDisp_ap, mPairs_nil, mPairs_cons, kPr1_ap, kPr2_ap, kPr3_ap, tuple_t, list_t, mZip_ap, zip_tt,
  wipeE, nc0, nc1, nc2, nc3, nc4, nc5, nc6, nc7, nc8, nc9, nc10, nc11, nc12, nc13, nc14, nc15, Int.reduceEq, Int.reduceLE, Int.reduceLT, Int.reduceSub, Int.reduceAdd,
  fnM_ap, tupD_ap, lstD_ap, le_line, Nat.reduceLeDiff, eq_self,
  add_ii, sub_ii, neg_i, lt_ii, le_ii, gt_ii, ge_ii, isN_n, isN_i, isN_t, isN_s, isN_b, isN_l, abs_i, max_ii, min_ii, int_i, int_b, len_t, len_r, eq_ii, eq_bb, eq_ss,
  List.map_cons, List.map_nil, List.cons_append, List.nil_append, List.append_nil, List.replicate_succ, List.replicate_zero, List.length_cons, List.length_nil, Nat.reduceSub, Nat.reduceAdd, Nat.sub_self, Nat.zero_add,
  List.getElem?_cons_succ, List.getElem?_cons_zero, List.set_cons_succ, List.set_cons_zero, Bool.not_true, Bool.not_false, decide_true, decide_false, if_true, if_false, reduceIte, Bool.false_eq_true])
/-! ### k90: drawn letters -/
def SOK (s : Snd) : Prop := (0 ≤ s.l ∧ s.l < 8) ∧ (0 ≤ s.k ∧ s.k < 50) ∧ (0 ≤ s.x ∧ s.x < 99) ∧ (0 ≤ s.y ∧ s.y < 3) ∧ (0 ≤ s.u ∧ s.u < 6)
noncomputable abbrev lB : Fa.Env → Sto → Out := sSeq (sAs (mA tupD (mCons (mA (gq F_l_take) (mCons (mVar 0) (mCons (mC (.int 99)) mNil))) (mCons (mA (gq F_l_take) (mCons (mVar 0) (mCons (mC (.int 3)) mNil))) mNil))) (gN 4))
    (sEx (mLM appD (mVar 2) (mCons (mA tupD (mCons (mA (gq F_l_take) (mCons (mVar 0) (mCons (mC (.int 8)) mNil))) (mCons (mA (gq F_l_take) (mCons (mVar 0) (mCons (mC (.int 50)) mNil))) (mCons (mVar 4) (mCons (mA (gq F_l_take) (mCons (mVar 0) (mCons (mC (.int 6)) mNil))) mNil))))) mNil)))
theorem letter_ok {p c L : Nat} {S : Sto} {mo : D} {x3 x4 x5 x6 x7 : Option D} {sl : List Snd} (hP : Pot p S c) (hc : c ≤ 900000) (hL : S[L]? = some (.lst (sl.map Snd.d))) (hn : L ≠ p) (hs : sl.length ≤ 100) :
    ∃ s T x4', lB [some (.loc p), some mo, some (.loc L), x3, x4, x5, x6, x7] S = .nx [some (.loc p), some mo, some (.loc L), x3, x4', x5, x6, x7] T ∧ SOK s ∧ T[L]? = some (.lst ((sl ++ [s]).map Snd.d)) ∧ Pot p T (c + 5) ∧ (∀ i, i ≠ p → i ≠ L → i < S.length → T[i]? = S[i]?) ∧ S.length ≤ T.length := by
  obtain ⟨v1, S1, e1, a1, b1, P1, g1⟩ := take_lit (r := [some (.loc p), some mo, some (.loc L), x3, x4, x5, x6, x7]) (n := 99) (fun _ => rfl) hP (by omega) (by decide) (by decide)
  obtain ⟨v2, S2, e2, a2, b2, P2, g2⟩ := take_lit (r := [some (.loc p), some mo, some (.loc L), x3, x4, x5, x6, x7]) (n := 3) (fun _ => rfl) P1 (by omega) (by decide) (by decide)
  obtain ⟨v3, S3, e3, a3, b3, P3, g3⟩ := take_lit (r := [some (.loc p), some mo, some (.loc L), x3, some (.tup [.int v1, .int v2]), x5, x6, x7]) (n := 8) (fun _ => rfl) P2 (by omega) (by decide) (by decide)
  obtain ⟨v4, S4, e4, a4, b4, P4, g4⟩ := take_lit (r := [some (.loc p), some mo, some (.loc L), x3, some (.tup [.int v1, .int v2]), x5, x6, x7]) (n := 50) (fun _ => rfl) P3 (by omega) (by decide) (by decide)
  obtain ⟨v5, S5, e5, a5, b5, P5, g5⟩ := take_lit (r := [some (.loc p), some mo, some (.loc L), x3, some (.tup [.int v1, .int v2]), x5, x6, x7]) (n := 6) (fun _ => rfl) P4 (by omega) (by decide) (by decide)
  have gA := (((g1.trans g2).trans g3).trans g4).trans g5
  have hL2 := (g1.trans g2).at hn hL
  have hL5 := gA.at hn hL
  have hlt := (List.getElem?_eq_some_iff.mp hL5).1
  have ap := app_l (S := S5) (n := L) (Snd.d ⟨v3, v4, v1, v2, v5⟩) hL5 (by rw [sizeLine_eq, List.length_map]; omega)
  have s1 : sAs (mA tupD (mCons (mA (gq F_l_take) (mCons (mVar 0) (mCons (mC (.int 99)) mNil))) (mCons (mA (gq F_l_take) (mCons (mVar 0) (mCons (mC (.int 3)) mNil))) mNil))) (gN 4) [some (.loc p), some mo, some (.loc L), x3, x4, x5, x6, x7] S = .nx [some (.loc p), some mo, some (.loc L), x3, some (.tup [.int v1, .int v2]), x5, x6, x7] S2 := by
    rw [sAs_ap, mA_ap, mCons_ap, e1, bK_ok, kCons_ap, mCons_ap, e2, bK_ok, kCons_ap, mNil_ap, bK_ok, kCon_ap, bK_ok, kCon_ap, bK_ok]
    rfl
  refine ⟨⟨v3, v4, v1, v2, v5⟩, S5.set L (.lst (sl.map Snd.d ++ [Snd.d ⟨v3, v4, v1, v2, v5⟩])), some (.tup [.int v1, .int v2]), ?_, ⟨⟨a3, b3⟩, ⟨a4, b4⟩, ⟨a1, b1⟩, ⟨a2, b2⟩, a5, b5⟩, ?_, P5.off hn, fun i h1 h2 h3 => ?_, ?_⟩
  · refine seq1 s1 ?_
    have m : mA tupD (mCons (mA (gq F_l_take) (mCons (mVar 0) (mCons (mC (.int 8)) mNil))) (mCons (mA (gq F_l_take) (mCons (mVar 0) (mCons (mC (.int 50)) mNil))) (mCons (mVar 4) (mCons (mA (gq F_l_take) (mCons (mVar 0) (mCons (mC (.int 6)) mNil))) mNil)))) [some (.loc p), some mo, some (.loc L), x3, some (.tup [.int v1, .int v2]), x5, x6, x7] S2 = .ok (Snd.d ⟨v3, v4, v1, v2, v5⟩) S5 := by
      have v4' : mVar 4 [some (.loc p), some mo, some (.loc L), x3, some (.tup [.int v1, .int v2]), x5, x6, x7] S4 = .ok (.tup [.int v1, .int v2]) S4 := rfl
      rw [mA_ap, mCons_ap, e3, bK_ok, kCons_ap, mCons_ap, e4, bK_ok, kCons_ap, mCons_ap, v4', bK_ok, kCons_ap, mCons_ap, e5, bK_ok, kCons_ap, mNil_ap, bK_ok, kCon_ap, bK_ok, kCon_ap, bK_ok, kCon_ap, bK_ok, kCon_ap, bK_ok]
      rfl
    have v2' : mVar 2 [some (.loc p), some mo, some (.loc L), x3, some (.tup [.int v1, .int v2]), x5, x6, x7] S2 = .ok (.loc L) S2 := rfl
    rw [sEx_ap, mLM_ap, v2', bK_ok, kLM_l hL2, mCons_ap, m, bK_ok, kCons_ap, mNil_ap, bK_ok, kCon_ap, bK_ok, ap]
    rfl
  · rw [List.getElem?_set_self hlt, List.map_append]
    rfl
  · rw [List.getElem?_set_ne (Ne.symm h2)]
    exact gA.2 i h1 h3
  · rw [List.length_set]
    exact gA.1
end Lw
namespace Lw
open PySem PySem.Spec PyProof.Rows L2 Fa
local macro_rules | `(tactic| walk_at "ev") => `(tactic| simp only [bK_ok, bK_err, bK_bad, bnd_ap, ret_ap, fail_ap, mVar_ap, vK_some, mC_ap, m1_ap, m2_ap, k2_ap, mNil_ap, mCons_ap, kCons_ap, kCon_ap, mA_ap, mIf_ap, kIf_t, kIf_f, tOf_ap, isBl_ap, tNt_ap, kNt_ap, tAn_ap, kAn_t, kAn_f, tOr_ap, kOr_t, kOr_f, mNot_ap, kNot_ap, mAnd_ap, kAnd_t, kAnd_f, mOr_ap, kOrV_t, kOrV_f,
  sSeq_ap, sK_nx, sK_rt, sK_bk, sK_ct, sK_ex, sK_bad, oK_ok, oK_err, oK_bad, kNx_ap, kRt_ap, sEx_ap, sRet_ap, sRetN_ap, sNx_ap, sBad_ap, sIf_ap, kIfS_t, kIfS_f, gN_ap, gT_ap, gT_tt, gTc_ap, gT0_ap, sAs_ap, kAs_ap, kAs2_ok, sPar_ap, kPar_ap, gSubD_ap, kSub1_ap, kSub2_ap, kSub3_ap, fK_nx, fK_rt, fK_ex, mLM_ap, mRng1_ap, mRng2_ap, mSrc_ap, src_t, src_r, src_s, src_k,
  mChain_ap, kCh1_ap, kCh2_ap, kCh3_t, kCh3_f, mSl_ap, kSl1_ap, kSl2_ap, mSlT_ap, kTl1_ap, kTl2_ap, mP0_ap, mP_ap, intO_ap, sl_t, dfl_ap, mTM_ap, kTM_k, kTM_t, mMeth_ap, kMe1_ap, kMe2_ap, kMe3_ap, gFld_ap, kF1_ap, gSubA_ap, kSA1_ap, kSA2_ap, sPar3_ap, kPar3_ap, mkD_ap, mkR_ok, dct0D_ap, mDisp_ap, mPairs_nil, mPairs_cons, kPr1_ap, kPr2_ap, kPr3_ap, tuple_t, list_t, mZip_ap, zip_tt,
  wipeE, nc0, nc1, nc2, nc3, nc4, nc5, nc6, nc7, nc8, nc9, nc10, nc11, nc12, nc13, nc14, nc15, Int.reduceEq, Int.reduceLE, Int.reduceLT, Int.reduceSub, Int.reduceAdd,
  fnM_ap, tupD_ap, lstD_ap, le_line, Nat.reduceLeDiff, eq_self,
  add_ii, sub_ii, neg_i, lt_ii, le_ii, gt_ii, ge_ii, isN_n, isN_i, isN_t, isN_s, isN_b, isN_l, abs_i, max_ii, min_ii, int_i, int_b, len_t, len_r, eq_ii, eq_bb, eq_ss,
  List.map_cons, List.map_nil, List.cons_append, List.nil_append, List.append_nil, List.replicate_succ, List.replicate_zero, List.length_cons, List.length_nil, Nat.reduceSub, Nat.reduceAdd, Nat.sub_self, Nat.zero_add,
  List.getElem?_cons_succ, List.getElem?_cons_zero, List.set_cons_succ, List.set_cons_zero, Bool.not_true, Bool.not_false, decide_true, decide_false, if_true, if_false, reduceIte, Bool.false_eq_true])
local macro_rules | `(tactic| walk_at "ex") => `(tactic| simp only [bK_ok, bK_err, bK_bad, bnd_ap, ret_ap, fail_ap, mVar_ap, vK_some, mC_ap, m1_ap, m2_ap, k2_ap, mNil_ap, mCons_ap, kCons_ap, kCon_ap, mA_ap, mIf_ap, kIf_t, kIf_f, tOf_ap, isBl_ap, tNt_ap, kNt_ap, kAn_t, kAn_f, tOr_ap, kOr_t, kOr_f, mNot_ap, kNot_ap, mAnd_ap, kAnd_t, kAnd_f, mOr_ap, kOrV_t, kOrV_f,
  sSeq_ap, sK_nx, sK_rt, sK_bk, sK_ct, sK_ex, sK_bad, oK_ok, oK_err, oK_bad, kNx_ap, kRt_ap, sEx_ap, sRet_ap, sRetN_ap, sNx_ap, sBad_ap, sIf_ap, kIfS_t, kIfS_f, gN_ap, gT_ap, gT_tt, gTc_ap, gT0_ap, sAs_ap, kAs_ap, kAs2_ok, sPar_ap, kPar_ap, gSubD_ap, kSub1_ap, kSub2_ap, kSub3_ap, fK_nx, fK_rt, fK_ex, mLM_ap, mRng1_ap, mRng2_ap, mSrc_ap, src_t, src_r, src_s, src_k,
  mChain_ap, kCh1_ap, kCh2_ap, kCh3_t, kCh3_f, mSl_ap, kSl1_ap, kSl2_ap, mSlT_ap, kTl1_ap, kTl2_ap, mP0_ap, mP_ap, intO_ap, sl_t, dfl_ap, mTM_ap, kTM_k, kTM_t, mMeth_ap, kMe1_ap, kMe2_ap, kMe3_ap, gFld_ap, kF1_ap, gSubA_ap, kSA1_ap, kSA2_ap, sPar3_ap, kPar3_ap, mkD_ap, mkR_ok, dct0D_ap, mDisp_ap, mPairs_nil, mPairs_cons, kPr1_ap, kPr2_ap, kPr3_ap, tuple_t, list_t, mZip_ap, zip_tt,
  wipeE, nc0, nc1, nc2, nc3, nc4, nc5, nc6, nc7, nc8, nc9, nc10, nc11, nc12, nc13, nc14, nc15, Int.reduceEq, Int.reduceLE, Int.reduceLT, Int.reduceSub, Int.reduceAdd,
  fnM_ap, tupD_ap, lstD_ap, le_line, Nat.reduceLeDiff, eq_self,
  add_ii, sub_ii, neg_i, lt_ii, le_ii, gt_ii, ge_ii, isN_n, isN_i, isN_t, isN_s, isN_b, isN_l, abs_i, max_ii, min_ii, int_i, int_b, len_t, len_r, eq_ii, eq_bb, eq_ss,
  List.map_cons, List.map_nil, List.cons_append, List.nil_append, List.append_nil, List.replicate_succ, List.replicate_zero, List.length_cons, List.length_nil, Nat.reduceSub, Nat.reduceAdd, Nat.sub_self, Nat.zero_add,
  List.getElem?_cons_succ, List.getElem?_cons_zero, List.set_cons_succ, List.set_cons_zero, Bool.not_true, Bool.not_false, decide_true, decide_false, if_true, if_false, reduceIte, Bool.false_eq_true])
/-! ### k90: drawn deeds -/
structure DOK (e : Dd) : Prop where
  a0 : 0 ≤ e.a ∧ e.a ≤ 1000000
  b0 : 0 ≤ e.b ∧ e.b ≤ 2
  n0 : nameS e.n = true
  m0 : nameS e.m = true
  w0 : 0 ≤ e.w ∧ e.w < 6
  s0 : ∀ s ∈ e.sl, SOK s
  sn : e.sl.length ≤ 3
  v0 : ∀ v ∈ e.vl, 0 ≤ v ∧ v < 6
  vn : e.vl.length ≤ 4
theorem pow6 (S : Sto) : powD (.int 10) (.int 6) S = .ok (.int 1000000) S := by
  rw [pow_ii S _ _ (by decide +kernel)]
  rfl
theorem rng_of {j : Int} (h0 : 0 ≤ j) (h1 : j ≤ 1000) {m : Fa.Env → M (List D)} {r : Fa.Env} {S T : Sto} (hm : m r S = .ok [.int j] T) : mRng1 m r S = .ok (.rng 0 j.toNat) T := by
  rw [mRng1_ap, hm, bK_ok]
  exact rng1_i (by omega) (by omega) T
theorem one_arg {m : Fa.Env → M D} {r : Fa.Env} {S T : Sto} {d : D} (h : m r S = .ok d T) : mCons m mNil r S = .ok [d] T := by
  rw [mCons_ap, h, bK_ok, kCons_ap, mNil_ap, bK_ok, kCon_ap]
theorem two_arg {m m' : Fa.Env → M D} {r : Fa.Env} {S T U : Sto} {d d' : D} (h : m r S = .ok d T) (h' : m' r T = .ok d' U) : mCons m (mCons m' mNil) r S = .ok [d, d'] U := by
  rw [mCons_ap, h, bK_ok, kCons_ap, one_arg h', bK_ok, kCon_ap]
theorem deed_1 {p c : Nat} {S : Sto} (hP : Pot p S c) (hc : c ≤ 900000) : ∃ a b T, sPar 1 2 (mCons (mA tupD (mCons (mA (gq F_l_of) (mCons (mVar 0) (mCons (mA lstD (mCons (mC (.int 0)) (mCons (mC (.int 7)) (mCons (m2 powD (mC (.int 10)) (mC (.int 6))) mNil)))) mNil))) (mCons (mA (gq F_l_of) (mCons (mVar 0) (mCons (mA lstD (mCons (mC (.int 0)) (mCons (mC (.int 0)) (mCons (mC (.int 2)) mNil)))) mNil))) mNil))) (mCons (mA lstD mNil) mNil)) [some (.loc p), none, none, none, none, none, none, none] S = .nx [some (.loc p), some (.tup [.int a, .int b]), some (.loc T.length), none, none, none, none, none] (T ++ [.lst []]) ∧ (0 ≤ a ∧ a ≤ 1000000) ∧ (0 ≤ b ∧ b ≤ 2) ∧ Pot p T (c + 2) ∧ Grw p S T := by
  have m1' : mCons (mC (.int 0)) (mCons (mC (.int 7)) (mCons (m2 powD (mC (.int 10)) (mC (.int 6))) mNil)) [some (.loc p), none, none, none, none, none, none, none] S = .ok [.int 0, .int 7, .int 1000000] S := by
    repeat (first | simp only [pow6] | walk_at "ev")
  obtain ⟨d1, T1, e1, h1, P1, g1⟩ := of_lit (r := [some (.loc p), none, none, none, none, none, none, none]) (fun _ => rfl) m1' hP (by omega) (by decide) (by decide) (by decide)
  obtain ⟨d2, T2, e2, h2, P2, g2⟩ := of_lit (m := mCons (mC (.int 0)) (mCons (mC (.int 0)) (mCons (mC (.int 2)) mNil))) (L := [.int 0, .int 0, .int 2]) (r := [some (.loc p), none, none, none, none, none, none, none]) (fun _ => rfl) (by repeat (first | walk_at "ev" | simp only [])) P1 (by omega) (by decide) (by decide) (by decide)
  obtain ⟨a, rfl, ha⟩ : ∃ a : Int, d1 = .int a ∧ 0 ≤ a ∧ a ≤ 1000000 := by
    simp only [List.mem_cons, List.not_mem_nil, or_false] at h1
    rcases h1 with h | h | h <;> exact ⟨_, h, by decide, by decide⟩
  obtain ⟨b, rfl, hb⟩ : ∃ a : Int, d2 = .int a ∧ 0 ≤ a ∧ a ≤ 2 := by
    simp only [List.mem_cons, List.not_mem_nil, or_false] at h2
    rcases h2 with h | h | h <;> exact ⟨_, h, by decide, by decide⟩
  refine ⟨a, b, T2, ?_, ha, hb, P2, g1.trans g2⟩
  have t1 : mA tupD (mCons (mA (gq F_l_of) (mCons (mVar 0) (mCons (mA lstD (mCons (mC (.int 0)) (mCons (mC (.int 7)) (mCons (m2 powD (mC (.int 10)) (mC (.int 6))) mNil)))) mNil))) (mCons (mA (gq F_l_of) (mCons (mVar 0) (mCons (mA lstD (mCons (mC (.int 0)) (mCons (mC (.int 0)) (mCons (mC (.int 2)) mNil)))) mNil))) mNil)) [some (.loc p), none, none, none, none, none, none, none] S = .ok (.tup [.int a, .int b]) T2 := by
    rw [mA_ap, two_arg e1 e2, bK_ok]
    rfl
  have t2 : mA lstD mNil [some (.loc p), none, none, none, none, none, none, none] T2 = .ok (.loc T2.length) (T2 ++ [.lst []]) := by
    rw [mA_ap, mNil_ap, bK_ok, lstD_ap _ _ (by decide)]
  rw [sPar_ap, two_arg t1 t2]
  rfl
end Lw
namespace Lw
open PySem PySem.Spec PyProof.Rows L2 Fa
local macro_rules | `(tactic| walk_at "ev") => `(tactic| simp only [bK_ok, bK_err, bK_bad, bnd_ap, ret_ap, fail_ap, mVar_ap, vK_some, mC_ap, m1_ap, m2_ap, k2_ap, mNil_ap, mCons_ap, kCons_ap, kCon_ap, mA_ap, mIf_ap, kIf_t, kIf_f, tOf_ap, isBl_ap, tNt_ap, kNt_ap, tAn_ap, kAn_t, kAn_f, tOr_ap, kOr_t, kOr_f, mNot_ap, kNot_ap, mAnd_ap, kAnd_t, kAnd_f, mOr_ap, kOrV_t, kOrV_f,
  sSeq_ap, sK_nx, sK_rt, sK_bk, sK_ct, sK_ex, sK_bad, oK_ok, oK_err, oK_bad, kNx_ap, kRt_ap, sEx_ap, sRet_ap, sRetN_ap, sNx_ap, sBad_ap, sIf_ap, kIfS_t, kIfS_f, gN_ap, gT_ap, gT_tt, gTc_ap, gT0_ap, sAs_ap, kAs_ap, kAs2_ok, sPar_ap, kPar_ap, gSubD_ap, kSub1_ap, kSub2_ap, kSub3_ap, fK_nx, fK_rt, fK_ex, mLM_ap, mRng1_ap, mRng2_ap, mSrc_ap, src_t, src_r, src_s, src_k,
  mChain_ap, kCh1_ap, kCh2_ap, kCh3_t, kCh3_f, mSl_ap, kSl1_ap, kSl2_ap, mSlT_ap, kTl1_ap, kTl2_ap, mP0_ap, mP_ap, intO_ap, sl_t, dfl_ap, mTM_ap, kTM_k, kTM_t, mMeth_ap, kMe1_ap, kMe2_ap, kMe3_ap, gFld_ap, kF1_ap, gSubA_ap, kSA1_ap, kSA2_ap, sPar3_ap, kPar3_ap, mkD_ap, mkR_ok, dct0D_ap, mDisp_ap, mPairs_nil, mPairs_cons, kPr1_ap, kPr2_ap, kPr3_ap, tuple_t, list_t, mZip_ap, zip_tt,
  wipeE, nc0, nc1, nc2, nc3, nc4, nc5, nc6, nc7, nc8, nc9, nc10, nc11, nc12, nc13, nc14, nc15, Int.reduceEq, Int.reduceLE, Int.reduceLT, Int.reduceSub, Int.reduceAdd,
  fnM_ap, tupD_ap, lstD_ap, le_line, Nat.reduceLeDiff, eq_self,
  add_ii, sub_ii, neg_i, lt_ii, le_ii, gt_ii, ge_ii, isN_n, isN_i, isN_t, isN_s, isN_b, isN_l, abs_i, max_ii, min_ii, int_i, int_b, len_t, len_r, eq_ii, eq_bb, eq_ss,
  List.map_cons, List.map_nil, List.cons_append, List.nil_append, List.append_nil, List.replicate_succ, List.replicate_zero, List.length_cons, List.length_nil, Nat.reduceSub, Nat.reduceAdd, Nat.sub_self, Nat.zero_add,
  List.getElem?_cons_succ, List.getElem?_cons_zero, List.set_cons_succ, List.set_cons_zero, Bool.not_true, Bool.not_false, decide_true, decide_false, if_true, if_false, reduceIte, Bool.false_eq_true])
local macro_rules | `(tactic| walk_at "ex") => `(tactic| simp only [bK_ok, bK_err, bK_bad, bnd_ap, ret_ap, fail_ap, mVar_ap, vK_some, mC_ap, m1_ap, m2_ap, k2_ap, mNil_ap, mCons_ap, kCons_ap, kCon_ap, mA_ap, mIf_ap, kIf_t, kIf_f, tOf_ap, isBl_ap, tNt_ap, kNt_ap, kAn_t, kAn_f, tOr_ap, kOr_t, kOr_f, mNot_ap, kNot_ap, mAnd_ap, kAnd_t, kAnd_f, mOr_ap, kOrV_t, kOrV_f,
  sSeq_ap, sK_nx, sK_rt, sK_bk, sK_ct, sK_ex, sK_bad, oK_ok, oK_err, oK_bad, kNx_ap, kRt_ap, sEx_ap, sRet_ap, sRetN_ap, sNx_ap, sBad_ap, sIf_ap, kIfS_t, kIfS_f, gN_ap, gT_ap, gT_tt, gTc_ap, gT0_ap, sAs_ap, kAs_ap, kAs2_ok, sPar_ap, kPar_ap, gSubD_ap, kSub1_ap, kSub2_ap, kSub3_ap, fK_nx, fK_rt, fK_ex, mLM_ap, mRng1_ap, mRng2_ap, mSrc_ap, src_t, src_r, src_s, src_k,
  mChain_ap, kCh1_ap, kCh2_ap, kCh3_t, kCh3_f, mSl_ap, kSl1_ap, kSl2_ap, mSlT_ap, kTl1_ap, kTl2_ap, mP0_ap, mP_ap, intO_ap, sl_t, dfl_ap, mTM_ap, kTM_k, kTM_t, mMeth_ap, kMe1_ap, kMe2_ap, kMe3_ap, gFld_ap, kF1_ap, gSubA_ap, kSA1_ap, kSA2_ap, sPar3_ap, kPar3_ap, mkD_ap, mkR_ok, dct0D_ap, mDisp_ap, mPairs_nil, mPairs_cons, kPr1_ap, kPr2_ap, kPr3_ap, tuple_t, list_t, mZip_ap, zip_tt,
  wipeE, nc0, nc1, nc2, nc3, nc4, nc5, nc6, nc7, nc8, nc9, nc10, nc11, nc12, nc13, nc14, nc15, Int.reduceEq, Int.reduceLE, Int.reduceLT, Int.reduceSub, Int.reduceAdd,
  fnM_ap, tupD_ap, lstD_ap, le_line, Nat.reduceLeDiff, eq_self,
  add_ii, sub_ii, neg_i, lt_ii, le_ii, gt_ii, ge_ii, isN_n, isN_i, isN_t, isN_s, isN_b, isN_l, abs_i, max_ii, min_ii, int_i, int_b, len_t, len_r, eq_ii, eq_bb, eq_ss,
  List.map_cons, List.map_nil, List.cons_append, List.nil_append, List.append_nil, List.replicate_succ, List.replicate_zero, List.length_cons, List.length_nil, Nat.reduceSub, Nat.reduceAdd, Nat.sub_self, Nat.zero_add,
  List.getElem?_cons_succ, List.getElem?_cons_zero, List.set_cons_succ, List.set_cons_zero, Bool.not_true, Bool.not_false, decide_true, decide_false, if_true, if_false, reduceIte, Bool.false_eq_true])
/-! ### k90: drawn deeds, the letters and what is said -/
theorem deed_2 {p c L : Nat} {S : Sto} {mo : D} (hP : Pot p S c) (hc : c ≤ 800000) (hL : S[L]? = some (.lst [])) (hn : L ≠ p) :
    ∃ (sl : List Snd) (T : Sto) (x3 x4 : Option D), sFor (mRng1 (mCons (mA (gq F_l_of) (mCons (mVar 0) (mCons (mA lstD (mCons (mC (.int 0)) (mCons (mC (.int 0)) (mCons (mC (.int 1)) (mCons (mC (.int 2)) (mCons (mC (.int 3)) mNil)))))) mNil))) mNil)) (gN 3) lB [some (.loc p), some mo, some (.loc L), none, none, none, none, none] S = .nx [some (.loc p), some mo, some (.loc L), x3, x4, none, none, none] T ∧ sl.length ≤ 3 ∧ (∀ s ∈ sl, SOK s) ∧ T[L]? = some (.lst (sl.map Snd.d)) ∧ Pot p T (c + 20) ∧ (∀ i, i ≠ p → i ≠ L → i < S.length → T[i]? = S[i]?) ∧ S.length ≤ T.length := by
  obtain ⟨d, T1, e, h, P1, g1⟩ := of_lit (m := mCons (mC (.int 0)) (mCons (mC (.int 0)) (mCons (mC (.int 1)) (mCons (mC (.int 2)) (mCons (mC (.int 3)) mNil))))) (L := [.int 0, .int 0, .int 1, .int 2, .int 3]) (r := [some (.loc p), some mo, some (.loc L), none, none, none, none, none]) (fun _ => rfl) (by repeat (first | walk_at "ev" | simp only [])) hP (by omega) (by decide) (by decide) (by decide)
  obtain ⟨k, rfl, hk⟩ : ∃ k : Nat, d = .int (k : Int) ∧ k ≤ 3 := by
    simp only [List.mem_cons, List.not_mem_nil, or_false] at h
    rcases h with h | h | h | h | h
    · exact ⟨0, h, by decide⟩
    · exact ⟨0, h, by decide⟩
    · exact ⟨1, h, by decide⟩
    · exact ⟨2, h, by decide⟩
    · exact ⟨3, h, by decide⟩
  have hm := rng_of (j := (k : Int)) (by omega) (by omega) (one_arg e)
  rw [Int.toNat_natCast] at hm
  obtain ⟨r', T, hf, x3, x4, sl, rfl, hT, hl, hs, hP', hG, hle⟩ := sFor_inv (src := .rng 0 k) k (fun i => .int (0 + (i : Int))) (g := gN 3) (b := lB) (fun i r T => ∃ (x3 x4 : Option D) (sl : List Snd), r = [some (.loc p), some mo, some (.loc L), x3, x4, none, none, none] ∧ T[L]? = some (.lst (sl.map Snd.d)) ∧ sl.length = i ∧ (∀ s ∈ sl, SOK s) ∧ Pot p T (c + 1 + 5 * i) ∧ (∀ i, i ≠ p → i ≠ L → i < S.length → T[i]? = S[i]?) ∧ S.length ≤ T.length) hm rfl (fun i r T _ => next_rng _ _ _ _)
    (fun i r T hi hI => by
      obtain ⟨x3, x4, sl, rfl, hT, hl, hs, hP', hG, hle⟩ := hI
      obtain ⟨s, T', x4', e', so, hT', P', G', le'⟩ := letter_ok (x3 := some (.int (0 + (i : Int)))) (x4 := x4) (x5 := none) (x6 := none) (x7 := none) (mo := mo) hP' (by omega) hT hn (by omega)
      refine ⟨[some (.loc p), some mo, some (.loc L), some (.int (0 + (i : Int))), x4, none, none, none], T, _, T', rfl, .inl e', some (.int (0 + (i : Int))), x4', sl ++ [s], rfl, hT', by rw [List.length_append, hl]; rfl, fun y hy => ?_, P'.mono (by omega), fun i h1 h2 h3 => (G' i h1 h2 (by omega)).trans (hG i h1 h2 h3), by omega⟩
      rcases List.mem_append.mp hy with hy | hy
      · exact hs y hy
      · simp only [List.mem_cons, List.not_mem_nil, or_false] at hy
        subst hy
        exact so) ⟨none, none, [], rfl, g1.at hn hL, rfl, fun _ h => (nomatch h), P1.mono (by omega), fun i h1 _ h3 => g1.2 i h1 h3, g1.1⟩
  exact ⟨sl, T, x3, x4, hf, by omega, hs, hT, hP'.mono (by omega), hG, hle⟩
theorem deed_3 {p c : Nat} {S : Sto} {mo le : D} {x3 x4 : Option D} (hP : Pot p S c) (hc : c ≤ 900000) :
    ∃ (vl : List Int) (T : Sto), sAs (mA tupleD (mCons (mLc (mRng1 (mCons (mA (gq F_l_of) (mCons (mVar 0) (mCons (mA lstD (mCons (mC (.int 0)) (mCons (mC (.int 0)) (mCons (mC (.int 1)) (mCons (mC (.int 4)) mNil))))) mNil))) mNil)) (gN 3) tT (mA (gq F_l_take) (mCons (mVar 0) (mCons (mC (.int 6)) mNil))) [3]) mNil)) (gN 5) [some (.loc p), some mo, some le, x3, x4, none, none, none] S = .nx [some (.loc p), some mo, some le, x3, x4, some (.tup (vl.map D.int)), none, none] T ∧ vl.length ≤ 4 ∧ (∀ v ∈ vl, 0 ≤ v ∧ v < 6) ∧ Pot p T (c + 6) ∧ Grw p S T := by
  have hpl := hP.lt
  obtain ⟨d, T1, e, h, P1, g1⟩ := of_lit (m := mCons (mC (.int 0)) (mCons (mC (.int 0)) (mCons (mC (.int 1)) (mCons (mC (.int 4)) mNil)))) (L := [.int 0, .int 0, .int 1, .int 4]) (r := [some (.loc p), some mo, some le, x3, x4, none, none, none]) (fun _ => rfl) (by repeat (first | walk_at "ev" | simp only [])) hP (by omega) (by decide) (by decide) (by decide)
  obtain ⟨k, rfl, hk⟩ : ∃ k : Nat, d = .int (k : Int) ∧ k ≤ 4 := by
    simp only [List.mem_cons, List.not_mem_nil, or_false] at h
    rcases h with h | h | h | h
    · exact ⟨0, h, by decide⟩
    · exact ⟨0, h, by decide⟩
    · exact ⟨1, h, by decide⟩
    · exact ⟨4, h, by decide⟩
  have hm := rng_of (j := (k : Int)) (by omega) (by omega) (one_arg e)
  rw [Int.toNat_natCast] at hm
  have hl1 := g1.1
  obtain ⟨ds, T, e1, e2, hl, ⟨vl, rfl, hv⟩, P', G'⟩ := mLc_inv (src := .rng 0 k) (g := gN 3) (e := mA (gq F_l_take) (mCons (mVar 0) (mCons (mC (.int 6)) mNil))) (vs := [3]) k (fun i => .int (0 + (i : Int))) (fun i acc T => (∃ vl : List Int, acc = vl.map D.int ∧ ∀ v ∈ vl, 0 ≤ v ∧ v < 6) ∧ Pot p T (c + 1 + i) ∧ Grw p S T) hm rfl (fun i acc T _ => next_rng _ _ _ _)
    (fun i acc T hi hJ hT => by
      obtain ⟨⟨vl, rfl, hv⟩, P', G'⟩ := hJ
      obtain ⟨v, T', e', v0, v1, P2, G2⟩ := take_lit (r := [some (.loc p), some mo, some le, some (.int (0 + (i : Int))), x4, none, none, none]) (n := 6) (fun _ => rfl) P' (by omega) (by decide) (by decide)
      have hT' : T'[T1.length]? = some (.lst (vl.map D.int)) := G2.at (by omega) hT
      refine ⟨[some (.loc p), some mo, some le, some (.int (0 + (i : Int))), x4, none, none, none], T', .int v, rfl, e', hT', ⟨vl ++ [v], by rw [List.map_append]; rfl, fun y hy => ?_⟩, (P2.mono (by omega)).off (by omega), ⟨by rw [List.length_set]; exact (G'.trans G2).1, fun j hj1 hj => ?_⟩⟩
      · rcases List.mem_append.mp hy with hy | hy
        · exact hv y hy
        · simp only [List.mem_cons, List.not_mem_nil, or_false] at hy
          subst hy
          exact ⟨v0, v1⟩
      · rw [List.getElem?_set_ne (by omega)]
        exact (G'.trans G2).2 j hj1 hj) (le_line (by omega)) ⟨⟨[], rfl, fun _ h => (nomatch h)⟩, (P1.app _).mono (by omega), g1.trans (Grw.app p _ _)⟩
  rw [List.length_map] at hl
  refine ⟨vl, T, ?_, by omega, hv, P'.mono (by omega), G'⟩
  have tp := tuple_l (S := T) e2
  rw [sAs_ap, mA_ap, one_arg e1, bK_ok, tp]
  rfl
end Lw
namespace Lw
open PySem PySem.Spec PyProof.Rows L2 Fa
local macro_rules | `(tactic| walk_at "ev") => `(tactic| simp only [bK_ok, bK_err, bK_bad, bnd_ap, ret_ap, fail_ap, mVar_ap, vK_some, mC_ap, m1_ap, m2_ap, k2_ap, mNil_ap, mCons_ap, kCons_ap, kCon_ap, mA_ap, mIf_ap, kIf_t, kIf_f, tOf_ap, isBl_ap, tNt_ap, kNt_ap, tAn_ap, kAn_t, kAn_f, tOr_ap, kOr_t, kOr_f, mNot_ap, kNot_ap, mAnd_ap, kAnd_t, kAnd_f, mOr_ap, kOrV_t, kOrV_f,
  sSeq_ap, sK_nx, sK_rt, sK_bk, sK_ct, sK_ex, sK_bad, oK_ok, oK_err, oK_bad, kNx_ap, kRt_ap, sEx_ap, sRet_ap, sRetN_ap, sNx_ap, sBad_ap, sIf_ap, kIfS_t, kIfS_f, gN_ap, gT_ap, gT_tt, gTc_ap, gT0_ap, sAs_ap, kAs_ap, kAs2_ok, sPar_ap, kPar_ap, gSubD_ap, kSub1_ap, kSub2_ap, kSub3_ap, fK_nx, fK_rt, fK_ex, mLM_ap, mRng1_ap, mRng2_ap, mSrc_ap, src_t, src_r, src_s, src_k,
  mChain_ap, kCh1_ap, kCh2_ap, kCh3_t, kCh3_f, mSl_ap, kSl1_ap, kSl2_ap, mSlT_ap, kTl1_ap, kTl2_ap, mP0_ap, mP_ap, intO_ap, sl_t, dfl_ap, mTM_ap, kTM_k, kTM_t, mMeth_ap, kMe1_ap, kMe2_ap, kMe3_ap, gFld_ap, kF1_ap, gSubA_ap, kSA1_ap, kSA2_ap, sPar3_ap, kPar3_ap, mkD_ap, mkR_ok, dct0D_ap, mDisp_ap, mPairs_nil, mPairs_cons, kPr1_ap, kPr2_ap, kPr3_ap, tuple_t, list_t, mZip_ap, zip_tt,
  wipeE, nc0, nc1, nc2, nc3, nc4, nc5, nc6, nc7, nc8, nc9, nc10, nc11, nc12, nc13, nc14, nc15, Int.reduceEq, Int.reduceLE, Int.reduceLT, Int.reduceSub, Int.reduceAdd,
  fnM_ap, tupD_ap, lstD_ap, le_line, Nat.reduceLeDiff, eq_self,
  add_ii, sub_ii, neg_i, lt_ii, le_ii, gt_ii, ge_ii, isN_n, isN_i, isN_t, isN_s, isN_b, isN_l, abs_i, max_ii, min_ii, int_i, int_b, len_t, len_r, eq_ii, eq_bb, eq_ss,
  List.map_cons, List.map_nil, List.cons_append, List.nil_append, List.append_nil, List.replicate_succ, List.replicate_zero, List.length_cons, List.length_nil, Nat.reduceSub, Nat.reduceAdd, Nat.sub_self, Nat.zero_add,
  List.getElem?_cons_succ, List.getElem?_cons_zero, List.set_cons_succ, List.set_cons_zero, Bool.not_true, Bool.not_false, decide_true, decide_false, if_true, if_false, reduceIte, Bool.false_eq_true])
local macro_rules | `(tactic| walk_at "ex") => `(tactic| simp only [bK_ok, bK_err, bK_bad, bnd_ap, ret_ap, fail_ap, mVar_ap, vK_some, mC_ap, m1_ap, m2_ap, k2_ap, mNil_ap, mCons_ap, kCons_ap, kCon_ap, mA_ap, mIf_ap, kIf_t, kIf_f, tOf_ap, isBl_ap, tNt_ap, kNt_ap, kAn_t, kAn_f, tOr_ap, kOr_t, kOr_f, mNot_ap, kNot_ap, mAnd_ap, kAnd_t, kAnd_f, mOr_ap, kOrV_t, kOrV_f,
  sSeq_ap, sK_nx, sK_rt, sK_bk, sK_ct, sK_ex, sK_bad, oK_ok, oK_err, oK_bad, kNx_ap, kRt_ap, sEx_ap, sRet_ap, sRetN_ap, sNx_ap, sBad_ap, sIf_ap, kIfS_t, kIfS_f, gN_ap, gT_ap, gT_tt, gTc_ap, gT0_ap, sAs_ap, kAs_ap, kAs2_ok, sPar_ap, kPar_ap, gSubD_ap, kSub1_ap, kSub2_ap, kSub3_ap, fK_nx, fK_rt, fK_ex, mLM_ap, mRng1_ap, mRng2_ap, mSrc_ap, src_t, src_r, src_s, src_k,
  mChain_ap, kCh1_ap, kCh2_ap, kCh3_t, kCh3_f, mSl_ap, kSl1_ap, kSl2_ap, mSlT_ap, kTl1_ap, kTl2_ap, mP0_ap, mP_ap, intO_ap, sl_t, dfl_ap, mTM_ap, kTM_k, kTM_t, mMeth_ap, kMe1_ap, kMe2_ap, kMe3_ap, gFld_ap, kF1_ap, gSubA_ap, kSA1_ap, kSA2_ap, sPar3_ap, kPar3_ap, mkD_ap, mkR_ok, dct0D_ap, mDisp_ap, mPairs_nil, mPairs_cons, kPr1_ap, kPr2_ap, kPr3_ap, tuple_t, list_t, mZip_ap, zip_tt,
  wipeE, nc0, nc1, nc2, nc3, nc4, nc5, nc6, nc7, nc8, nc9, nc10, nc11, nc12, nc13, nc14, nc15, Int.reduceEq, Int.reduceLE, Int.reduceLT, Int.reduceSub, Int.reduceAdd,
  fnM_ap, tupD_ap, lstD_ap, le_line, Nat.reduceLeDiff, eq_self,
  add_ii, sub_ii, neg_i, lt_ii, le_ii, gt_ii, ge_ii, isN_n, isN_i, isN_t, isN_s, isN_b, isN_l, abs_i, max_ii, min_ii, int_i, int_b, len_t, len_r, eq_ii, eq_bb, eq_ss,
  List.map_cons, List.map_nil, List.cons_append, List.nil_append, List.append_nil, List.replicate_succ, List.replicate_zero, List.length_cons, List.length_nil, Nat.reduceSub, Nat.reduceAdd, Nat.sub_self, Nat.zero_add,
  List.getElem?_cons_succ, List.getElem?_cons_zero, List.set_cons_succ, List.set_cons_zero, Bool.not_true, Bool.not_false, decide_true, decide_false, if_true, if_false, reduceIte, Bool.false_eq_true])
/-! ### k90: drawn deeds, whole -/
theorem deed_ok {p c : Nat} {S : Sto} (hP : Pot p S c) (hc : c ≤ 700000) : ∃ (e : Dd) (T : Sto), F_l_deed [.loc p] S = .ok e.d T ∧ DOK e ∧ Pot p T (c + 40) ∧ Grw p S T := by
  obtain ⟨a, b, T1, s1, ha, hb, P1, g1⟩ := deed_1 hP (by omega)
  have hl1 := P1.lt
  obtain ⟨sl, T2, x3, x4, s2, sn, hs, hL, P2, G2, le2⟩ := deed_2 (S := T1 ++ [.lst []]) (L := T1.length) (mo := .tup [.int a, .int b]) (P1.app _) (by omega) (at_end T1 (.lst [])) (by omega)
  obtain ⟨vl, T3, s3, vn, hv, P3, g3⟩ := deed_3 (mo := .tup [.int a, .int b]) (le := .loc T1.length) (x3 := x3) (x4 := x4) P2 (by omega)
  have hL3 := g3.at (by omega) hL
  obtain ⟨d6, T4, e6, h6, P4, g4⟩ := of_lit (m := mCons (mC (.str (PySem.Str.ofString "a"))) (mCons (mC (.str (PySem.Str.ofString "tap"))) (mCons (mC (.str (PySem.Str.ofString "abcdefgh"))) mNil))) (L := [.str (tx "a"), .str (tx "tap"), .str (tx "abcdefgh")]) (r := [some (.loc p), some (.tup [.int a, .int b]), some (.loc T1.length), x3, x4, some (.tup (vl.map D.int)), none, none]) (fun _ => rfl) (by repeat (first | walk_at "ev" | simp only [])) P3 (by omega) (by simp) (by simp) (by decide)
  obtain ⟨d7, T5, e7, h7, P5, g5⟩ := of_lit (m := mCons (mC (.str (PySem.Str.ofString "x"))) (mCons (mC (.str (PySem.Str.ofString "it"))) (mCons (mC (.str (PySem.Str.ofString "bell"))) mNil))) (L := [.str (tx "x"), .str (tx "it"), .str (tx "bell")]) (r := [some (.loc p), some (.tup [.int a, .int b]), some (.loc T1.length), x3, x4, some (.tup (vl.map D.int)), none, none]) (fun _ => rfl) (by repeat (first | walk_at "ev" | simp only [])) P4 (by omega) (by simp) (by simp) (by decide)
  obtain ⟨n, rfl, hn⟩ : ∃ n, d6 = .str n ∧ nameS n = true := by
    simp only [List.mem_cons, List.not_mem_nil, or_false] at h6
    rcases h6 with h | h | h <;> exact ⟨_, h, by decide +kernel⟩
  obtain ⟨m, rfl, hm⟩ : ∃ n, d7 = .str n ∧ nameS n = true := by
    simp only [List.mem_cons, List.not_mem_nil, or_false] at h7
    rcases h7 with h | h | h <;> exact ⟨_, h, by decide +kernel⟩
  obtain ⟨w, T6, e8, w0, w1, P6, g6⟩ := take_lit (r := [some (.loc p), some (.tup [.int a, .int b]), some (.loc T1.length), x3, x4, some (.tup (vl.map D.int)), some (.str n), some (.str m)]) (n := 6) (fun _ => rfl) P5 (by omega) (by decide) (by decide)
  have gA := ((g3.trans g4).trans g5).trans g6
  have hL6 := gA.at (by omega) hL
  have s4 : sPar 6 7 (mCons (mA (gq F_l_of) (mCons (mVar 0) (mCons (mA lstD (mCons (mC (.str (PySem.Str.ofString "a"))) (mCons (mC (.str (PySem.Str.ofString "tap"))) (mCons (mC (.str (PySem.Str.ofString "abcdefgh"))) mNil)))) mNil))) (mCons (mA (gq F_l_of) (mCons (mVar 0) (mCons (mA lstD (mCons (mC (.str (PySem.Str.ofString "x"))) (mCons (mC (.str (PySem.Str.ofString "it"))) (mCons (mC (.str (PySem.Str.ofString "bell"))) mNil)))) mNil))) mNil)) [some (.loc p), some (.tup [.int a, .int b]), some (.loc T1.length), x3, x4, some (.tup (vl.map D.int)), none, none] T3 = .nx [some (.loc p), some (.tup [.int a, .int b]), some (.loc T1.length), x3, x4, some (.tup (vl.map D.int)), some (.str n), some (.str m)] T5 := by
    rw [sPar_ap, two_arg e6 e7]
    rfl
  have tp := tuple_l (S := T6) hL6
  refine ⟨⟨a, b, n, m, w, sl, vl⟩, T6, ?_, ⟨ha, hb, hn, hm, ⟨w0, w1⟩, hs, sn, hv, vn⟩, P6.mono (by omega), ?_⟩
  · unfold F_l_deed
    rw [fnM_ap _ _ _ _ _ (by rfl)]
    refine (congrArg fK (seq1 s1 (seq1 s2 (seq1 s3 (seq1 s4 (o := .rt (Dd.d ⟨a, b, n, m, w, sl, vl⟩) T6) ?_))))).trans rfl
    have b5 : ∀ ee : Fa.Env → M D, ee [some (.loc p), some (.tup [.int a, .int b]), some (.loc T1.length), x3, x4, some (.tup (vl.map D.int)), some (.str n), some (.str m)] T5 = .ok (.int w) T6 → sRet (mA tupD (mCons (mVar 1) (mCons (mVar 6) (mCons (mVar 7) (mCons ee (mCons (mA tupleD (mCons (mVar 2) mNil)) (mCons (mVar 5) mNil))))))) [some (.loc p), some (.tup [.int a, .int b]), some (.loc T1.length), x3, x4, some (.tup (vl.map D.int)), some (.str n), some (.str m)] T5 = .rt (Dd.d ⟨a, b, n, m, w, sl, vl⟩) T6 := fun ee hee => by
      repeat (first | simp only [hee, tp] | walk_at "ev")
      rfl
    exact b5 _ e8
  · refine ⟨?_, fun i h1 h2 => ?_⟩
    · have := g1.1
      have := gA.1
      rw [List.length_append] at le2
      omega
    · have l1 := g1.1
      rw [gA.2 i h1 (by rw [List.length_append] at le2; omega), G2 i h1 (by omega) (by rw [List.length_append]; omega), List.getElem?_append_left (by omega)]
      exact g1.2 i h1 h2
end Lw
namespace Lw
open PySem PySem.Spec PyProof.Rows L2 Fa
local macro_rules | `(tactic| walk_at "ev") => `(tactic| simp only [bK_ok, bK_err, bK_bad, bnd_ap, ret_ap, fail_ap, mVar_ap, vK_some, mC_ap, m1_ap, m2_ap, k2_ap, mNil_ap, mCons_ap, kCons_ap, kCon_ap, mA_ap, mIf_ap, kIf_t, kIf_f, tOf_ap, isBl_ap, tNt_ap, kNt_ap, tAn_ap, kAn_t, kAn_f, tOr_ap, kOr_t, kOr_f, mNot_ap, kNot_ap, mAnd_ap, kAnd_t, kAnd_f, mOr_ap, kOrV_t, kOrV_f,
  sSeq_ap, sK_nx, sK_rt, sK_bk, sK_ct, sK_ex, sK_bad, oK_ok, oK_err, oK_bad, kNx_ap, kRt_ap, sEx_ap, sRet_ap, sRetN_ap, sNx_ap, sBad_ap, sIf_ap, kIfS_t, kIfS_f, gN_ap, gT_ap, gT_tt, gTc_ap, gT0_ap, sAs_ap, kAs_ap, kAs2_ok, sPar_ap, kPar_ap, gSubD_ap, kSub1_ap, kSub2_ap, kSub3_ap, fK_nx, fK_rt, fK_ex, mLM_ap, mRng1_ap, mRng2_ap, mSrc_ap, src_t, src_r, src_s, src_k,
  mChain_ap, kCh1_ap, kCh2_ap, kCh3_t, kCh3_f, mSl_ap, kSl1_ap, kSl2_ap, mSlT_ap, kTl1_ap, kTl2_ap, mP0_ap, mP_ap, intO_ap, sl_t, dfl_ap, mTM_ap, kTM_k, kTM_t, mMeth_ap, kMe1_ap, kMe2_ap, kMe3_ap, gFld_ap, kF1_ap, gSubA_ap, kSA1_ap, kSA2_ap, sPar3_ap, kPar3_ap, mkD_ap, mkR_ok, dct0D_ap, mDisp_ap, mPairs_nil, mPairs_cons, kPr1_ap, kPr2_ap, kPr3_ap, tuple_t, list_t, mZip_ap, zip_tt,
  wipeE, nc0, nc1, nc2, nc3, nc4, nc5, nc6, nc7, nc8, nc9, nc10, nc11, nc12, nc13, nc14, nc15, Int.reduceEq, Int.reduceLE, Int.reduceLT, Int.reduceSub, Int.reduceAdd,
  fnM_ap, tupD_ap, lstD_ap, le_line, Nat.reduceLeDiff, eq_self,
  add_ii, sub_ii, neg_i, lt_ii, le_ii, gt_ii, ge_ii, isN_n, isN_i, isN_t, isN_s, isN_b, isN_l, abs_i, max_ii, min_ii, int_i, int_b, len_t, len_r, eq_ii, eq_bb, eq_ss,
  List.map_cons, List.map_nil, List.cons_append, List.nil_append, List.append_nil, List.replicate_succ, List.replicate_zero, List.length_cons, List.length_nil, Nat.reduceSub, Nat.reduceAdd, Nat.sub_self, Nat.zero_add,
  List.getElem?_cons_succ, List.getElem?_cons_zero, List.set_cons_succ, List.set_cons_zero, Bool.not_true, Bool.not_false, decide_true, decide_false, if_true, if_false, reduceIte, Bool.false_eq_true])
local macro_rules | `(tactic| walk_at "ex") => `(tactic| simp only [bK_ok, bK_err, bK_bad, bnd_ap, ret_ap, fail_ap, mVar_ap, vK_some, mC_ap, m1_ap, m2_ap, k2_ap, mNil_ap, mCons_ap, kCons_ap, kCon_ap, mA_ap, mIf_ap, kIf_t, kIf_f, tOf_ap, isBl_ap, tNt_ap, kNt_ap, kAn_t, kAn_f, tOr_ap, kOr_t, kOr_f, mNot_ap, kNot_ap, mAnd_ap, kAnd_t, kAnd_f, mOr_ap, kOrV_t, kOrV_f,
  sSeq_ap, sK_nx, sK_rt, sK_bk, sK_ct, sK_ex, sK_bad, oK_ok, oK_err, oK_bad, kNx_ap, kRt_ap, sEx_ap, sRet_ap, sRetN_ap, sNx_ap, sBad_ap, sIf_ap, kIfS_t, kIfS_f, gN_ap, gT_ap, gT_tt, gTc_ap, gT0_ap, sAs_ap, kAs_ap, kAs2_ok, sPar_ap, kPar_ap, gSubD_ap, kSub1_ap, kSub2_ap, kSub3_ap, fK_nx, fK_rt, fK_ex, mLM_ap, mRng1_ap, mRng2_ap, mSrc_ap, src_t, src_r, src_s, src_k,
  mChain_ap, kCh1_ap, kCh2_ap, kCh3_t, kCh3_f, mSl_ap, kSl1_ap, kSl2_ap, mSlT_ap, kTl1_ap, kTl2_ap, mP0_ap, mP_ap, intO_ap, sl_t, dfl_ap, mTM_ap, kTM_k, kTM_t, mMeth_ap, kMe1_ap, kMe2_ap, kMe3_ap, gFld_ap, kF1_ap, gSubA_ap, kSA1_ap, kSA2_ap, sPar3_ap, kPar3_ap, mkD_ap, mkR_ok, dct0D_ap, mDisp_ap, mPairs_nil, mPairs_cons, kPr1_ap, kPr2_ap, kPr3_ap, tuple_t, list_t, mZip_ap, zip_tt,
  wipeE, nc0, nc1, nc2, nc3, nc4, nc5, nc6, nc7, nc8, nc9, nc10, nc11, nc12, nc13, nc14, nc15, Int.reduceEq, Int.reduceLE, Int.reduceLT, Int.reduceSub, Int.reduceAdd,
  fnM_ap, tupD_ap, lstD_ap, le_line, Nat.reduceLeDiff, eq_self,
  add_ii, sub_ii, neg_i, lt_ii, le_ii, gt_ii, ge_ii, isN_n, isN_i, isN_t, isN_s, isN_b, isN_l, abs_i, max_ii, min_ii, int_i, int_b, len_t, len_r, eq_ii, eq_bb, eq_ss,
  List.map_cons, List.map_nil, List.cons_append, List.nil_append, List.append_nil, List.replicate_succ, List.replicate_zero, List.length_cons, List.length_nil, Nat.reduceSub, Nat.reduceAdd, Nat.sub_self, Nat.zero_add,
  List.getElem?_cons_succ, List.getElem?_cons_zero, List.set_cons_succ, List.set_cons_zero, Bool.not_true, Bool.not_false, decide_true, decide_false, if_true, if_false, reduceIte, Bool.false_eq_true])
/-! ### k90: drawn deeds are deeds -/
theorem snd_vm {p : Nat} {S : Sto} {s : Snd} (h : SOK s) : Vm p S 100000000 2 78 s.d := by
  obtain ⟨h1, h2, h3, h4, h5⟩ := h
  have i : ∀ (n : Nat) (i : Int), 0 ≤ i ∧ i < 100 → Vm p S 100000000 n 12 (.int i) := fun n i hi => vm_sm (by omega) (by omega) (Nat.le_refl _)
  have xy : Vm p S 100000000 1 31 (.tup [.int s.x, .int s.y]) := ((Pl.one (i 0 s.x (by omega))).app (Pl.one (i 0 s.y (by omega)))).vl (by simp) (Nat.le_refl _)
  exact ((Pl.one (i 1 s.l (by omega))).app ((Pl.one (i 1 s.k (by omega))).app ((Pl.one xy).app (Pl.one (i 1 s.u (by omega)))))).vl (by simp) (Nat.le_refl _)
theorem snds_pl {p : Nat} {S : Sto} : ∀ {sl : List Snd}, (∀ s ∈ sl, SOK s) → Pl p S 100000000 2 (80 * sl.length) (sl.map Snd.d)
  | [], _ => ⟨fun _ h => (nomatch h), Nat.le_refl _⟩
  | s :: sl, h => by
    have a := (Pl.one (snd_vm (p := p) (S := S) (h s (by simp)))).app (snds_pl fun x hx => h x (List.mem_cons_of_mem _ hx))
    rw [List.length_cons, show 80 * (sl.length + 1) = 78 + 2 + 80 * sl.length by omega]
    exact a
theorem cnts_pl {p : Nat} {S : Sto} : ∀ {vl : List Int}, (∀ v ∈ vl, 0 ≤ v ∧ v < 6) → Pl p S 100000000 0 (14 * vl.length) (vl.map D.int)
  | [], _ => ⟨fun _ h => (nomatch h), Nat.le_refl _⟩
  | v :: vl, h => by
    have hv := h v (by simp)
    have a := (Pl.one (vm_sm (p := p) (S := S) (n := 0) (M := 100000000) (i := v) (B := 12) (by omega) (by omega) (Nat.le_refl _))).app (cnts_pl fun x hx => h x (List.mem_cons_of_mem _ hx))
    rw [List.length_cons, show 14 * (vl.length + 1) = 12 + 2 + 14 * vl.length by omega]
    exact a
theorem deed_vm {p : Nat} {S : Sto} {e : Dd} (h : DOK e) : Vm p S 100000000 4 540 e.d := by
  have ha := h.a0
  have hb := h.b0
  have hw := h.w0
  have hsn := h.sn
  have hvn := h.vn
  have nl : ∀ z : Str, nameS z = true → z.length ≤ 8 := fun z hz => by
    unfold nameS at hz
    simp only [Bool.and_eq_true, decide_eq_true_eq] at hz
    exact hz.1.2
  have n1 := nl _ h.n0
  have n2 := nl _ h.m0
  have mo : Vm p S 100000000 3 31 (.tup [.int e.a, .int e.b]) := (((Pl.one (vm_sm (n := 0) (i := e.a) (B := 12) (by omega) (by omega) (Nat.le_refl _))).app (Pl.one (vm_sm (n := 0) (i := e.b) (B := 12) (by omega) (by omega) (Nat.le_refl _)))).vl (by simp) (Nat.le_refl _)).mono (Nat.le_refl _) (by decide) (Nat.le_refl _)
  have vn : Vm p S 100000000 3 82 (.str e.n) := vm_str (strG_name h.n0) (by omega) (by omega)
  have vm' : Vm p S 100000000 3 82 (.str e.m) := vm_str (strG_name h.m0) (by omega) (by omega)
  have vw' : Vm p S 100000000 3 12 (.int e.w) := vm_sm (by omega) (by omega) (Nat.le_refl _)
  have vs : Vm p S 100000000 3 243 (.tup (e.sl.map Snd.d)) := (snds_pl h.s0).vl (by rw [List.length_map]; omega) (by omega)
  have vv : Vm p S 100000000 3 59 (.tup (e.vl.map D.int)) := ((cnts_pl h.v0).vl (by rw [List.length_map]; omega) (B := 59) (by omega)).mono (Nat.le_refl _) (by decide) (Nat.le_refl _)
  exact ((Pl.one mo).app ((Pl.one vn).app ((Pl.one vm').app ((Pl.one vw').app ((Pl.one vs).app (Pl.one vv)))))).vl (by simp) (by decide)
theorem deed_P {e : Dd} (h : DOK e) : deedP e.d = true := by
  have c : ∀ i : Int, 0 ≤ i → cntP (.int i) = true := fun i hi => decide_eq_true hi
  have du : ∀ i j : Int, 0 ≤ i → 0 ≤ j → dueP (.tup [.int i, .int j]) = true := fun i j hi hj => by
    show (decide (0 ≤ i) && decide (0 ≤ j)) = true
    rw [decide_eq_true hi, decide_eq_true hj]
    rfl
  have a1 : (e.sl.map Snd.d).all sendP = true := by
    rw [List.all_eq_true]
    intro x hx
    obtain ⟨s, hs, rfl⟩ := List.mem_map.mp hx
    obtain ⟨h1, h2, h3, h4, h5⟩ := h.s0 s hs
    show (dueP (.tup [.int s.x, .int s.y]) && [D.int s.l, .int s.k, .int s.u].all cntP) = true
    rw [du _ _ h3.1 h4.1, List.all_cons, List.all_cons, List.all_cons, c _ h1.1, c _ h2.1, c _ h5.1]
    rfl
  have a2 : (e.vl.map D.int).all cntP = true := by
    rw [List.all_eq_true]
    intro x hx
    obtain ⟨s, hs, rfl⟩ := List.mem_map.mp hx
    exact c _ (h.v0 s hs).1
  show (dueP (.tup [.int e.a, .int e.b]) && (nameS e.n && (nameS e.m && (cntP (.int e.w) && ((e.sl.map Snd.d).all sendP && (e.vl.map D.int).all cntP))))) = true
  rw [du _ _ h.a0.1 h.b0.1, h.n0, h.m0, c _ h.w0.1, a1, a2]
  rfl
end Lw
namespace Lw
open PySem PySem.Spec PyProof.Rows L2 Fa
local macro_rules | `(tactic| walk_at "ev") => `(tactic| simp only [bK_ok, bK_err, bK_bad, bnd_ap, ret_ap, fail_ap, mVar_ap, vK_some, mC_ap, m1_ap, m2_ap, k2_ap, mNil_ap, mCons_ap, kCons_ap, kCon_ap, mA_ap, mIf_ap, kIf_t, kIf_f, tOf_ap, isBl_ap, tNt_ap, kNt_ap, tAn_ap, kAn_t, kAn_f, tOr_ap, kOr_t, kOr_f, mNot_ap, kNot_ap, mAnd_ap, kAnd_t, kAnd_f, mOr_ap, kOrV_t, kOrV_f,
  sSeq_ap, sK_nx, sK_rt, sK_bk, sK_ct, sK_ex, sK_bad, oK_ok, oK_err, oK_bad, kNx_ap, kRt_ap, sEx_ap, sRet_ap, sRetN_ap, sNx_ap, sBad_ap, sIf_ap, kIfS_t, kIfS_f, gN_ap, gT_ap, gT_tt, gTc_ap, gT0_ap, sAs_ap, kAs_ap, kAs2_ok, sPar_ap, kPar_ap, gSubD_ap, kSub1_ap, kSub2_ap, kSub3_ap, fK_nx, fK_rt, fK_ex, mLM_ap, mRng1_ap, mRng2_ap, mSrc_ap, src_t, src_r, src_s, src_k,
  mChain_ap, kCh1_ap, kCh2_ap, kCh3_t, kCh3_f, mSl_ap, kSl1_ap, kSl2_ap, mSlT_ap, kTl1_ap, kTl2_ap, mP0_ap, mP_ap, intO_ap, sl_t, dfl_ap, mTM_ap, kTM_k, kTM_t, mMeth_ap, kMe1_ap, kMe2_ap, kMe3_ap, gFld_ap, kF1_ap, gSubA_ap, kSA1_ap, kSA2_ap, sPar3_ap, kPar3_ap, mkD_ap, mkR_ok, dct0D_ap, mDisp_ap, mPairs_nil, mPairs_cons, kPr1_ap, kPr2_ap, kPr3_ap, tuple_t, list_t, mZip_ap, zip_tt,
  wipeE, nc0, nc1, nc2, nc3, nc4, nc5, nc6, nc7, nc8, nc9, nc10, nc11, nc12, nc13, nc14, nc15, Int.reduceEq, Int.reduceLE, Int.reduceLT, Int.reduceSub, Int.reduceAdd,
  fnM_ap, tupD_ap, lstD_ap, le_line, Nat.reduceLeDiff, eq_self,
  add_ii, sub_ii, neg_i, lt_ii, le_ii, gt_ii, ge_ii, isN_n, isN_i, isN_t, isN_s, isN_b, isN_l, abs_i, max_ii, min_ii, int_i, int_b, len_t, len_r, eq_ii, eq_bb, eq_ss,
  List.map_cons, List.map_nil, List.cons_append, List.nil_append, List.append_nil, List.replicate_succ, List.replicate_zero, List.length_cons, List.length_nil, Nat.reduceSub, Nat.reduceAdd, Nat.sub_self, Nat.zero_add,
  List.getElem?_cons_succ, List.getElem?_cons_zero, List.set_cons_succ, List.set_cons_zero, Bool.not_true, Bool.not_false, decide_true, decide_false, if_true, if_false, reduceIte, Bool.false_eq_true])
local macro_rules | `(tactic| walk_at "ex") => `(tactic| simp only [bK_ok, bK_err, bK_bad, bnd_ap, ret_ap, fail_ap, mVar_ap, vK_some, mC_ap, m1_ap, m2_ap, k2_ap, mNil_ap, mCons_ap, kCons_ap, kCon_ap, mA_ap, mIf_ap, kIf_t, kIf_f, tOf_ap, isBl_ap, tNt_ap, kNt_ap, kAn_t, kAn_f, tOr_ap, kOr_t, kOr_f, mNot_ap, kNot_ap, mAnd_ap, kAnd_t, kAnd_f, mOr_ap, kOrV_t, kOrV_f,
  sSeq_ap, sK_nx, sK_rt, sK_bk, sK_ct, sK_ex, sK_bad, oK_ok, oK_err, oK_bad, kNx_ap, kRt_ap, sEx_ap, sRet_ap, sRetN_ap, sNx_ap, sBad_ap, sIf_ap, kIfS_t, kIfS_f, gN_ap, gT_ap, gT_tt, gTc_ap, gT0_ap, sAs_ap, kAs_ap, kAs2_ok, sPar_ap, kPar_ap, gSubD_ap, kSub1_ap, kSub2_ap, kSub3_ap, fK_nx, fK_rt, fK_ex, mLM_ap, mRng1_ap, mRng2_ap, mSrc_ap, src_t, src_r, src_s, src_k,
  mChain_ap, kCh1_ap, kCh2_ap, kCh3_t, kCh3_f, mSl_ap, kSl1_ap, kSl2_ap, mSlT_ap, kTl1_ap, kTl2_ap, mP0_ap, mP_ap, intO_ap, sl_t, dfl_ap, mTM_ap, kTM_k, kTM_t, mMeth_ap, kMe1_ap, kMe2_ap, kMe3_ap, gFld_ap, kF1_ap, gSubA_ap, kSA1_ap, kSA2_ap, sPar3_ap, kPar3_ap, mkD_ap, mkR_ok, dct0D_ap, mDisp_ap, mPairs_nil, mPairs_cons, kPr1_ap, kPr2_ap, kPr3_ap, tuple_t, list_t, mZip_ap, zip_tt,
  wipeE, nc0, nc1, nc2, nc3, nc4, nc5, nc6, nc7, nc8, nc9, nc10, nc11, nc12, nc13, nc14, nc15, Int.reduceEq, Int.reduceLE, Int.reduceLT, Int.reduceSub, Int.reduceAdd,
  fnM_ap, tupD_ap, lstD_ap, le_line, Nat.reduceLeDiff, eq_self,
  add_ii, sub_ii, neg_i, lt_ii, le_ii, gt_ii, ge_ii, isN_n, isN_i, isN_t, isN_s, isN_b, isN_l, abs_i, max_ii, min_ii, int_i, int_b, len_t, len_r, eq_ii, eq_bb, eq_ss,
  List.map_cons, List.map_nil, List.cons_append, List.nil_append, List.append_nil, List.replicate_succ, List.replicate_zero, List.length_cons, List.length_nil, Nat.reduceSub, Nat.reduceAdd, Nat.sub_self, Nat.zero_add,
  List.getElem?_cons_succ, List.getElem?_cons_zero, List.set_cons_succ, List.set_cons_zero, Bool.not_true, Bool.not_false, decide_true, decide_false, if_true, if_false, reduceIte, Bool.false_eq_true])
/-! ### k90: the law -/
theorem kwF_1 (F : List D → M D) (d : D) (S : Sto) : kwF 1 [0] F [d] S = F [d] S := rfl
theorem right_q {p c : Nat} {S : Sto} (hP : Pot p S c) (hc : c ≤ 600000) : ∃ x y z, gq F_l_right [.loc p] S = .ok (.bl true) (S.set p (il x y z)) ∧ Pot p (S.set p (il x y z)) (c + 100) := by
  obtain ⟨e, T0, e0, hD, P0, g0⟩ := deed_ok hP (by omega)
  have v0 : Vm p S 100000000 4 540 e.d := deed_vm hD
  obtain ⟨x, y, z, q0, P1⟩ := gq_grw e0 g0 hP.lt P0 (lt_ok v0.vl.okS)
  have g1 := Grw.set p S (il x y z)
  generalize S.set p (il x y z) = S1 at q0 P1 g1
  have vd1 : Vm p S1 100000000 4 540 e.d := deed_vm hD
  obtain ⟨b1, S2, q1, P2, g2, v1⟩ := bent_ok (by decide) (by decide) 4 8 4 540 (c + 40) (by decide) P1 (by omega) vd1 (by decide)
  obtain ⟨b2, S3, q2, P3, g3, v2⟩ := bent_ok (by decide) (by decide) 4 8 5 1248 (c + 40 + 3 * 4 + 2) (by decide) P2 (by omega) v1 (by decide)
  have vE : Vm p S3 100000000 1 3 (.tup []) := (⟨fun _ h => (nomatch h), Nat.le_refl _⟩ : Pl p S3 100000000 0 0 []).vl (by simp) (Nat.le_refl _)
  obtain ⟨o, S4, q3, P4, g4, v3⟩ := odd_ok P3 (by omega) vE (by decide) (by decide) (by decide)
  have g5 := Grw.app p S4 [.lst [e.d, b1, b2, o]]
  have P5 := P4.app [.lst [e.d, b1, b2, o]]
  have a5 := at_end S4 (.lst [e.d, b1, b2, o])
  have w0 := (vd1.gr (((g2.trans g3).trans g4).trans g5)).vl
  have w1 := (v1.gr ((g3.trans g4).trans g5)).vl
  have w2 := (v2.gr (g4.trans g5)).vl
  have w3 := (v3.gr g5).vl
  have lm : mSrc (mA lstD (mCons (mVar 1) (mCons (mVar 2) (mCons (mA (F_l_bent 8) (mCons (mVar 0) (mCons (mVar 2) (mCons (mC (.int 4)) mNil)))) (mCons (mA F_l_odd (mCons (mVar 0) (mCons (mA tupD mNil) mNil))) mNil))))) [some (.loc p), some e.d, some b1, none, none, none] S2 = .ok (.lst S4.length) (S4 ++ [.lst [e.d, b1, b2, o]]) := by
    have q2' : F_l_bent 8 [.loc p, b1, .int 4] S2 = .ok b2 S3 := q2
    have sl : ∀ T n ds, T[n]? = some (.lst ds) → srcOf (.loc n) T = .ok (.lst n) T := fun T n ds h => by
      unfold srcOf
      simp only [h]
    repeat (first | walk_at "ev" | simp only [q2', q3, sl _ _ _ a5])
  obtain ⟨eo, _⟩ := dd_ok w0 (by decide) hD.n0 hD.m0
  have ok5 := w0.okS
  have sh := show_q eo ok5 (deed_P hD)
  have wr := written_q eo (S := S4 ++ [.lst [e.d, b1, b2, o]])
  have vls : ∀ i, i < 4 → ∃ n B, n ≤ 20 ∧ B ≤ 10000 ∧ Vl p (S4 ++ [.lst [e.d, b1, b2, o]]) n B ([e.d, b1, b2, o].getD i .non) := fun i hi => by
    match i, hi with
    | 0, _ => exact ⟨_, _, by decide, by decide, w0⟩
    | 1, _ => exact ⟨_, _, by decide, by decide, w1⟩
    | 2, _ => exact ⟨_, _, by decide, by decide, w2⟩
    | 3, _ => exact ⟨_, _, by decide, by decide, w3⟩
  generalize S4 ++ [.lst [e.d, b1, b2, o]] = S5 at *
  obtain ⟨r', T, hf, x3, x4, x5, rfl, rfl⟩ := sFor_inv (src := .lst S4.length) 4 (fun i => [e.d, b1, b2, o].getD i .non) (g := gN 3) (b := (sSeq (sAs (mA reprX (mCons (mVar 3) mNil)) (gN 4))
    (sSeq (sAs (mIf (tOf (mA (gq F_l_is_deed) (mCons (mVar 3) mNil))) (mA tupD (mCons (mC (.str (PySem.Str.ofString "told"))) (mCons (mA (gq F_l_written) (mCons (mVar 3) mNil)) mNil))) (mA tupD (mCons (mC (.str (PySem.Str.ofString "value"))) (mCons (mVar 3) mNil)))) (gN 5))
    (sIf (Fa.tOr (tOf (m2 (eqB true) (mA reprX (mCons (mA (gq F_l_kept) (mCons (mVar 3) mNil)) mNil)) (mA reprX (mCons (mVar 5) mNil)))) (tOf (m2 (eqB true) (mA reprX (mCons (mVar 3) mNil)) (mVar 4)))) (sRet (mC (.bl false))) sNx))))
    (fun _ r T => ∃ x3 x4 x5, r = [some (.loc p), some e.d, some b1, x3, x4, x5] ∧ T = S5) lm (by unfold turns; simp only [a5]; rfl) (fun i r T hI => by
      obtain ⟨_, _, _, _, rfl⟩ := hI
      rw [next_lst a5]
      congr 1
      match i with
      | 0 | 1 | 2 | 3 => rfl
      | i + 4 => rfl)
    (fun i r T hi hI => by
      obtain ⟨x3, x4, x5, rfl, rfl⟩ := hI
      obtain ⟨n, B, hn, hB, hv⟩ := vls i hi
      obtain ⟨y4, y5, hy⟩ := thing_q hv hn hB (x0 := some (.loc p)) (x1 := some e.d) (x2 := some b1) (x4 := x4) (x5 := x5)
      exact ⟨_, _, _, _, rfl, .inl hy, _, _, _, rfl, rfl⟩) ⟨none, none, none, rfl, rfl⟩
  have hF : F_l_right [.loc p] S = .ok (.bl true) T := by
    unfold F_l_right
    rw [fnM_ap _ _ _ _ _ (by rfl)]
    have q1' : F_l_bent 8 [.loc p, e.d, .int 4] S1 = .ok b1 S2 := q1
    have ez := eq_same e.txt T
    refine (congrArg fK (seq1 (r1 := [some (.loc p), some e.d, none, none, none, none]) (S1 := S1) ?_ (seq1 (r1 := [some (.loc p), some e.d, some b1, none, none, none]) (S1 := S2) ?_ (seq1 hf (o := .rt (.bl true) T) ?_)))).trans rfl
    · repeat (first | simp only [q0] | walk_at "ev")
    · repeat (first | simp only [q1'] | walk_at "ev")
    · repeat (first | simp only [kwF_1, sh, wr, ez] | walk_at "ev")
  obtain ⟨x, y, z, h1, h2⟩ := gq_grw hF ((((g1.trans g2).trans g3).trans g4).trans g5) hP.lt P5 rfl
  exact ⟨x, y, z, h1, h2.mono (by omega)⟩
theorem rights_q {S : Sto} {p : Nat} (hp : Pot p S 0) (x0 x1 x3 : Option D) : ∃ T, mA allD (mCons (mLc (mRng1 (mCons (mC (.int 30)) mNil)) (gN 3) tT (mA (gq F_l_right) (mCons (mVar 2) mNil)) [3]) mNil) [x0, x1, some (.loc p), x3] S = .ok (.bl true) T := by
  have hpl := hp.lt
  have hm : mRng1 (mCons (mC (.int 30)) mNil) [x0, x1, some (.loc p), x3] S = .ok (.rng 0 30) S := rfl
  obtain ⟨ds, T, e1, e2, hl, hP, hD⟩ := mLc_inv (g := gN 3) (e := mA (gq F_l_right) (mCons (mVar 2) mNil)) (vs := [3]) 30 (fun i => .int (0 + (i : Int))) (fun i acc T => Pot p T (100 * i) ∧ ∀ d ∈ acc, d = .bl true) hm rfl (fun i acc T _ => next_rng _ _ _ _)
    (fun i acc T hi hJ hT => by
      obtain ⟨hP, hD⟩ := hJ
      obtain ⟨x, y, z, e', hP'⟩ := right_q hP (by omega)
      have hT' : (T.set p (il x y z))[S.length]? = some (.lst acc) := by
        rw [List.getElem?_set_ne (by omega)]
        exact hT
      refine ⟨_, T.set p (il x y z), .bl true, rfl, ?_, hT', (hP'.mono (by omega)).off (by omega), fun d hd => ?_⟩
      · repeat (first | walk_at "ev" | simp only [e'])
      · rcases List.mem_append.mp hd with hd | hd
        · exact hD d hd
        · simpa using hd) (le_line (by decide)) ⟨hp.app _, fun d hd => nomatch hd⟩
  have hds : ds = List.replicate 30 (.bl true) := List.eq_replicate_iff.mpr ⟨hl, hD⟩
  rw [hds] at e2
  have a1 := all_rep e2
  refine ⟨T, ?_⟩
  repeat (first | walk_at "ev" | simp only [e1, a1])
noncomputable def body90 : Fa.Env → Sto → Out := (sSeq (sAs (mA (gq F_l_pot) (mCons (mVar 0) (mCons (mVar 1) mNil))) (gN 2))
    (sIf (tNt (tOf (mA allD (mCons (mLc (mRng1 (mCons (mC (.int 30)) mNil)) (gN 3) tT (mA (gq F_l_right) (mCons (mVar 2) mNil)) [3]) mNil)))) (sRet (mC (.bl false))) sNx))
theorem law_true : ∀ ns : List Int, ns.length ≤ 63 → ∃ S, F_law [.rls (ns.map D.int)] [] = .ok (.bl true) S := by
  intro ns _
  refine law_all (nv := 3) (body := body90) (fun r => ∃ x1 x2 x3, r = [some (.rls (ns.map D.int)), x1, x2, x3]) rfl ns ⟨_, _, _, rfl⟩ ?_
  rintro i r S hi ⟨x1, x2, x3, rfl⟩
  obtain ⟨a, b, e, hp⟩ := pot_q ns i hi S
  obtain ⟨T, hT⟩ := rights_q hp (some (.rls (ns.map D.int))) (some (.int (i : Int))) x3
  refine ⟨[some (.rls (ns.map D.int)), some (.int (i : Int)), some (.loc S.length), x3], T, ?_, ⟨_, _, _, rfl⟩⟩
  unfold body90
  refine seq1 (r1 := [some (.rls (ns.map D.int)), some (.int (i : Int)), some (.loc S.length), x3]) (S1 := S ++ [il a b 0]) ?_ ?_
  · simp only [List.set_cons_succ, List.set_cons_zero]
    repeat (first | walk_at "ev" | simp only [e])
  · rw [sIf_ap, tNt_ap, tOf_ap, hT]
    rfl
end Lw
open PySem PySem.W PyProof.Rows
set_option maxHeartbeats 0 in
theorem PySem.Challenge.cw_farasnothing_k90_deeds_written_holds : PySem.Challenge.rw_farasnothing_k90_deeds_written.Holds := by
  w_on; o_law; k_head; (case hw => w_witness2)
  k_fill
  refine Fa.law_walk (l := PySem.Challenge.rw_farasnothing_k90_deeds_written) (n := 63) (k := 13) (x := "_law_script") rfl (by decide) rfl ⟨rfl, by decide, by decide⟩ (fun w h Y => PySem.W.kIn_of Y) ?F
  case F =>
    intro w mg fa h KX G hmg
    refine' Lw.all_mk (w := w) KX G ?a_is_name ?l_is_name ?k1_is_name ?k2_is_name ?a_is_count_stamps ?l_is_count_stamps ?k1_is_count_stamps ?k2_is_count_stamps ?a_is_stamp ?l_is_stamp ?k1_is_stamp ?k2_is_stamp ?a_show_stamp ?l_show_stamp ?k1_show_stamp ?k2_show_stamp ?a_line_of ?l_line_of ?k1_line_of ?k2_line_of ?a_is_count_texts ?l_is_count_texts ?k1_is_count_texts ?k2_is_count_texts ?a_is_send ?l_is_send ?k1_is_send ?k2_is_send ?a_is_deed ?l_is_deed ?k1_is_deed ?k2_is_deed ?a_show_deed ?l_show_deed ?k1_show_deed ?k2_show_deed ?a_l_pot ?l_l_pot ?k1_l_pot ?k2_l_pot ?a_l_take ?l_l_take ?k1_l_take ?k2_l_take ?a_l_of ?l_l_of ?k1_l_of ?k2_l_of ?a_l_is_int ?l_l_is_int ?k1_l_is_int ?k2_l_is_int ?a_l_is_name ?l_l_is_name ?k1_l_is_name ?k2_l_is_name ?a_l_is_moment ?l_l_is_moment ?k1_l_is_moment ?k2_l_is_moment ?a_l_is_letter ?l_l_is_letter ?k1_l_is_letter ?k2_l_is_letter ?a_l_is_deed ?l_l_is_deed ?k1_l_is_deed ?k2_l_is_deed ?a_l_written ?l_l_written ?k1_l_written ?k2_l_written ?a_l_odd ?l_l_odd ?k1_l_odd ?k2_l_odd ?a_l_bent ?l_l_bent ?k1_l_bent ?k2_l_bent ?a_l_deed ?l_l_deed ?k1_l_deed ?k2_l_deed ?a_l_kept ?l_l_kept ?k1_l_kept ?k2_l_kept ?a_l_right ?l_l_right ?k1_l_right ?k2_l_right ?a_law ?l_law ?k1_law ?k2_law ?opq ?nosup ?htop ?ocl1 ?ocl2 ?aC_FarError ?hd_FarError ?tC_FarError ?xC_FarError ?aC_BadModel ?kcl_BadModel ?rve_BadModel ?sa_BadModel ?xC_BadModel ?tC_BadModel ?kC_BadModel ?fi_BadModel ?ft_BadModel ?fl_BadModel ?su_BadModel ?sb_BadModel ?ow_BadModel ?lk_BadModel ?cd_BadModel ?ce_BadModel ?co_BadModel ?vf_BadModel ?hf_BadModel ?ga_BadModel ?gg_BadModel ?hd_BadModel ?hc_BadModel ?mo_BadModel ?xFarError_BadModel ?aC_BadValue ?kcl_BadValue ?rve_BadValue ?sa_BadValue ?xC_BadValue ?tC_BadValue ?kC_BadValue ?fi_BadValue ?ft_BadValue ?fl_BadValue ?su_BadValue ?sb_BadValue ?ow_BadValue ?lk_BadValue ?cd_BadValue ?ce_BadValue ?co_BadValue ?vf_BadValue ?hf_BadValue ?ga_BadValue ?gg_BadValue ?hd_BadValue ?hc_BadValue ?mo_BadValue ?xFarError_BadValue ?nq_BadModel_BadValue ?sq_BadModel_BadValue ?nq_BadValue_BadModel ?sq_BadValue_BadModel ?y_ValueError ?y_abs ?y_all ?y_bool ?y_int ?y_isinstance ?y_len ?y_list ?y_max ?y_min ?y_range ?y_repr ?y_str ?y_tuple ?y_BLANK ?y_DEED_PARTS ?y_LETTERS ?y_MOST_LETTERS ?y_NEVER ?y_PARTS ?y_SEND_PARTS Lw.law_true hmg
    (case a_is_name => k_is); (case l_is_name => k_is); (case k1_is_name => k_is); (case k2_is_name => k_is); (case a_is_count_stamps => k_is); (case l_is_count_stamps => k_is); (case k1_is_count_stamps => k_is); (case k2_is_count_stamps => k_is); (case a_is_stamp => k_is); (case l_is_stamp => k_is); (case k1_is_stamp => k_is); (case k2_is_stamp => k_is); (case a_show_stamp => k_is); (case l_show_stamp => k_is); (case k1_show_stamp => k_is); (case k2_show_stamp => k_is); (case a_line_of => k_is); (case l_line_of => k_is); (case k1_line_of => k_is); (case k2_line_of => k_is); (case a_is_count_texts => k_is); (case l_is_count_texts => k_is); (case k1_is_count_texts => k_is); (case k2_is_count_texts => k_is); (case a_is_send => k_is); (case l_is_send => k_is); (case k1_is_send => k_is); (case k2_is_send => k_is); (case a_is_deed => k_is); (case l_is_deed => k_is); (case k1_is_deed => k_is); (case k2_is_deed => k_is); (case a_show_deed => k_is); (case l_show_deed => k_is); (case k1_show_deed => k_is); (case k2_show_deed => k_is); (case a_l_pot => k_is); (case l_l_pot => k_is); (case k1_l_pot => k_is); (case k2_l_pot => k_is); (case a_l_take => k_is); (case l_l_take => k_is); (case k1_l_take => k_is); (case k2_l_take => k_is); (case a_l_of => k_is); (case l_l_of => k_is); (case k1_l_of => k_is); (case k2_l_of => k_is); (case a_l_is_int => k_is); (case l_l_is_int => k_is); (case k1_l_is_int => k_is); (case k2_l_is_int => k_is); (case a_l_is_name => k_is); (case l_l_is_name => k_is); (case k1_l_is_name => k_is); (case k2_l_is_name => k_is); (case a_l_is_moment => k_is); (case l_l_is_moment => k_is); (case k1_l_is_moment => k_is); (case k2_l_is_moment => k_is); (case a_l_is_letter => k_is); (case l_l_is_letter => k_is); (case k1_l_is_letter => k_is); (case k2_l_is_letter => k_is); (case a_l_is_deed => k_is); (case l_l_is_deed => k_is); (case k1_l_is_deed => k_is); (case k2_l_is_deed => k_is); (case a_l_written => k_is); (case l_l_written => k_is); (case k1_l_written => k_is); (case k2_l_written => k_is); (case a_l_odd => k_is); (case l_l_odd => k_is); (case k1_l_odd => k_is); (case k2_l_odd => k_is); (case a_l_bent => k_is); (case l_l_bent => k_is); (case k1_l_bent => k_is); (case k2_l_bent => k_is); (case a_l_deed => k_is); (case l_l_deed => k_is); (case k1_l_deed => k_is); (case k2_l_deed => k_is); (case a_l_kept => k_is); (case l_l_kept => k_is); (case k1_l_kept => k_is); (case k2_l_kept => k_is); (case a_l_right => k_is); (case l_l_right => k_is); (case k1_l_right => k_is); (case k2_l_right => k_is); (case a_law => k_is); (case l_law => k_is); (case k1_law => k_is); (case k2_law => k_is); (case opq => k_is); (case nosup => k_is); (case htop => first | rfl | decide | decide +kernel); (case ocl1 => k_is); (case ocl2 => k_is); (case aC_FarError => k_is); (case hd_FarError => k_is); (case tC_FarError => k_is); (case xC_FarError => k_is); (case aC_BadModel => k_is); (case kcl_BadModel => k_is); (case rve_BadModel => first | rfl | decide | decide +kernel); (case sa_BadModel => k_is); (case xC_BadModel => k_is); (case tC_BadModel => k_is); (case kC_BadModel => k_is); (case fi_BadModel => k_is); (case ft_BadModel => k_is); (case fl_BadModel => k_is); (case su_BadModel => ks_is); (case sb_BadModel => k_is); (case ow_BadModel => k_is); (case lk_BadModel => k_is); (case cd_BadModel => k_is); (case ce_BadModel => k_is); (case co_BadModel => k_is); (case vf_BadModel => first | rfl | decide | decide +kernel); (case hf_BadModel => first | rfl | decide | decide +kernel); (case ga_BadModel => k_is); (case gg_BadModel => k_is); (case hd_BadModel => k_is); (case hc_BadModel => k_is); (case mo_BadModel => k_is); (case xFarError_BadModel => k_is); (case aC_BadValue => k_is); (case kcl_BadValue => k_is); (case rve_BadValue => first | rfl | decide | decide +kernel); (case sa_BadValue => k_is); (case xC_BadValue => k_is); (case tC_BadValue => k_is); (case kC_BadValue => k_is); (case fi_BadValue => k_is); (case ft_BadValue => k_is); (case fl_BadValue => k_is); (case su_BadValue => ks_is); (case sb_BadValue => k_is); (case ow_BadValue => k_is); (case lk_BadValue => k_is); (case cd_BadValue => k_is); (case ce_BadValue => k_is); (case co_BadValue => k_is); (case vf_BadValue => first | rfl | decide | decide +kernel); (case hf_BadValue => first | rfl | decide | decide +kernel); (case ga_BadValue => k_is); (case gg_BadValue => k_is); (case hd_BadValue => k_is); (case hc_BadValue => k_is); (case mo_BadValue => k_is); (case xFarError_BadValue => k_is); (case nq_BadModel_BadValue => first | rfl | decide | decide +kernel); (case sq_BadModel_BadValue => k_is); (case nq_BadValue_BadModel => first | rfl | decide | decide +kernel); (case sq_BadValue_BadModel => k_is); (case y_ValueError => k_is); (case y_abs => k_is); (case y_all => k_is); (case y_bool => k_is); (case y_int => k_is); (case y_isinstance => k_is); (case y_len => k_is); (case y_list => k_is); (case y_max => k_is); (case y_min => k_is); (case y_range => k_is); (case y_repr => k_is); (case y_str => k_is); (case y_tuple => k_is); (case y_BLANK => k_is); (case y_DEED_PARTS => k_is); (case y_LETTERS => k_is); (case y_MOST_LETTERS => k_is); (case y_NEVER => k_is); (case y_PARTS => k_is); (case y_SEND_PARTS => k_is)
