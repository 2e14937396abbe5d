import PyProof.Rows.All
import Wide.All
import OpenK.AllK
import Wide.FinOn
import HandS.ForMost
import HandS.ForExc
import HandS.TupLe
import HandS.TupAny
import HandS.IsInst
import PySem.Challenge.RW_farasnothing_k11_whole_stamps_in_order
set_option Elab.async false
set_option linter.all false
set_option maxRecDepth 100000
set_option maxHeartbeats 4000000
namespace Fa
open PySem PySem.Spec PyProof.Rows L2
/-! data, the store, results -/
inductive D where
  | non | bl (b : Bool) | int (i : Int) | str (x : Str) | tup (ds : List D) | rls (ds : List D) | loc (n : Nat) | adr (a : Addr) | ty (n : String)
inductive MO where
  | lst (ds : List D)
  | dct (kvs : List (Key × D))
  | ins (C : Addr) (fs : List (Str × D))
abbrev Sto := List MO
structure Exn where
  C : Addr
  fs : List (Str × D)
inductive Res (α : Type) where
  | ok (a : α) (S : Sto) | err (x : Exn) (S : Sto) | bad
abbrev M (α : Type) := Sto → Res α
def ret {α : Type} (a : α) : M α := fun S => .ok a S
def bnd {α β : Type} (m : M α) (f : α → M β) : M β := fun S =>
  match m S with
  | .ok a S' => f a S'
  | .err x S' => .err x S'
  | .bad => .bad
def fail {α : Type} : M α := fun _ => .bad
abbrev Env := List (Option D)
/-- how a statement ends -/
inductive Out where
  | nx (r : Env) (S : Sto) | rt (d : D) (S : Sto) | bk (r : Env) (S : Sto) | ct (r : Env) (S : Sto) | ex (x : Exn) (r : Env) (S : Sto) | bad
/-! what a value stands for -/
section
variable (K : PySem.W.Frag) (mu : List Addr) (H : Hp)
def SqR (a : Addr) (vs : List V) : Prop :=
  (∃ o, H a = some (.frz o (.lst vs))) ∨ ∃ (o : Obj) (its : Array Value) (n : Nat), K.lookup a = some o ∧ o.cls = .type "list" ∧ o.dict = none ∧ o.data = .seq its n ∧ its.size ≤ sizeLine ∧ Vals vs its.toList
mutual
inductive Rep : V → D → Prop
  | non : Rep .non .non
  | bl (b : Bool) : Rep (.bl b) (.bl b)
  | int (i : Int) : Rep (.int i) (.int i)
  | str (x : Str) : Rep (.str x) (.str x)
  | ty (n : String) : Rep (.ty n) (.ty n)
  | adr (a : Addr) : Rep (.ref a) (.adr a)
  | loc {a : Addr} {n : Nat} : mu[n]? = some a → Rep (.ref a) (.loc n)
  | tup {a : Addr} {vs : List V} {ds : List D} : SqT K H a vs → Reps vs ds → Rep (.ref a) (.tup ds)
  | rls {a : Addr} {vs : List V} {ds : List D} : SqR K H a vs → Reps vs ds → Rep (.ref a) (.rls ds)
inductive Reps : List V → List D → Prop
  | nil : Reps [] []
  | cons {v : V} {vs : List V} {d : D} {ds : List D} : Rep v d → Reps vs ds → Reps (v :: vs) (d :: ds)
end
def KReps {κ : Type} : List (κ × V) → List (κ × D) → Prop := Paired fun p q => p.1 = q.1 ∧ Rep K mu H p.2 q.2
def MoRep (a : Addr) : MO → Prop
  | .lst ds => ∃ vs, H a = some (.lst vs) ∧ Reps K mu H vs ds
  | .dct kvs => ∃ vs, H a = some (.dK vs) ∧ KReps K mu H vs kvs
  | .ins C fs => ∃ dx vs, H a = some (.ins C dx vs) ∧ KReps K mu H vs fs
def RepO : Option V → Option D → Prop
  | some v, some d => Rep K mu H v d
  | _, none => True
  | none, some _ => False
def ERep : L2.St → Env → Prop := Paired (RepO K mu H)
structure HRep (S : Sto) : Prop where
  len : S.length = mu.length
  nd : mu.Nodup
  ob : ∀ (n : Nat) (o : MO) (a : Addr), S[n]? = some o → mu[n]? = some a → MoRep K mu H a o
def XRep (cls : Value) (dd : Option Addr) (x : Exn) : Prop := cls = .ref x.C ∧ ∃ a fs, dd = some a ∧ H a = some (.xd fs) ∧ KReps K mu H fs x.fs
end
/-- later: handles and data stay -/
structure Ext (mu : List Addr) (H : Hp) (mu' : List Addr) (H' : Hp) : Prop where
  pre : ∃ l, mu' = mu ++ l
  tups : ∀ a xs, H a = some (.tup xs) → H' a = some (.tup xs)
  frzs : ∀ a o u, H a = some (.frz o u) → H' a = some (.frz o u)
section
variable {K : PySem.W.Frag} {mu mu' mu2 : List Addr} {H H' H2 : Hp}
theorem Ext.refl : Ext mu H mu H := ⟨⟨[], by simp⟩, fun _ _ h => h, fun _ _ _ h => h⟩
theorem Ext.trans (a : Ext mu H mu' H') (b : Ext mu' H' mu2 H2) : Ext mu H mu2 H2 := by
  obtain ⟨l, e⟩ := a.pre
  obtain ⟨l', e'⟩ := b.pre
  exact ⟨⟨l ++ l', by rw [e', e, List.append_assoc]⟩, fun c xs h => b.tups c xs (a.tups c xs h), fun c o u h => b.frzs c o u (a.frzs c o u h)⟩
theorem Ext.get (a : Ext mu H mu' H') {n : Nat} {b : Addr} (h : mu[n]? = some b) : mu'[n]? = some b := by
  obtain ⟨l, rfl⟩ := a.pre
  obtain ⟨hl, e⟩ := List.getElem?_eq_some_iff.mp h
  rw [List.getElem?_append_left hl]
  exact h
theorem Ext.sqT (e : Ext mu H mu' H') {a : Addr} {vs : List V} (h : SqT K H a vs) : SqT K H' a vs := by
  rcases h with (h | ⟨o, h⟩) | h
  · exact .inl (.inl (e.tups _ _ h))
  · exact .inl (.inr ⟨o, e.frzs _ _ _ h⟩)
  · exact .inr h
theorem Ext.sqR (e : Ext mu H mu' H') {a : Addr} {vs : List V} (h : SqR K H a vs) : SqR K H' a vs := by
  rcases h with ⟨o, h⟩ | h
  · exact .inl ⟨o, e.frzs _ _ _ h⟩
  · exact .inr h
mutual
theorem Rep.mono (e : Ext mu H mu' H') : ∀ {v : V} {d : D}, Rep K mu H v d → Rep K mu' H' v d
  | _, _, .non => .non
  | _, _, .bl b => .bl b
  | _, _, .int i => .int i
  | _, _, .str x => .str x
  | _, _, .ty n => .ty n
  | _, _, .adr a => .adr a
  | _, _, .loc h => .loc (e.get h)
  | _, _, .tup h r => .tup (e.sqT h) (Reps.mono e r)
  | _, _, .rls h r => .rls (e.sqR h) (Reps.mono e r)
theorem Reps.mono (e : Ext mu H mu' H') : ∀ {vs : List V} {ds : List D}, Reps K mu H vs ds → Reps K mu' H' vs ds
  | _, _, .nil => .nil
  | _, _, .cons r t => .cons (Rep.mono e r) (Reps.mono e t)
end
theorem RepO.mono (e : Ext mu H mu' H') {v : Option V} {d : Option D} (h : RepO K mu H v d) : RepO K mu' H' v d := by
  cases d with
  | none => cases v <;> trivial
  | some d =>
    cases v with
    | none => exact h
    | some v => exact Rep.mono e h
theorem ERep.mono (e : Ext mu H mu' H') : ∀ {s : L2.St} {r : Env}, ERep K mu H s r → ERep K mu' H' s r
  | _, _, .nil => .nil
  | _, _, .cons h t => .cons (RepO.mono e h) (ERep.mono e t)
theorem KReps.mono {κ : Type} (e : Ext mu H mu' H') : ∀ {s : List (κ × V)} {r : List (κ × D)}, KReps K mu H s r → KReps K mu' H' s r
  | _, _, .nil => .nil
  | _, _, .cons h t => .cons ⟨h.1, Rep.mono e h.2⟩ (KReps.mono e t)
theorem Reps.length : ∀ {vs : List V} {ds : List D}, Reps K mu H vs ds → vs.length = ds.length
  | _, _, .nil => rfl
  | _, _, .cons _ t => by simp [Reps.length t]
theorem ERep.length : ∀ {s : L2.St} {r : Env}, ERep K mu H s r → s.length = r.length
  | _, _, .nil => rfl
  | _, _, .cons _ t => by simp [ERep.length t]
theorem ERep.get : ∀ {s : L2.St} {r : Env} {i : Nat} {d : D}, ERep K mu H s r → r[i]? = some (some d) → ∃ v, s[i]? = some (some v) ∧ Rep K mu H v d
  | _, _, _, _, .nil, e => by simp at e
  | some v :: _, _, 0, d, .cons h _, e => by
    simp at e
    subst e
    exact ⟨v, rfl, h⟩
  | none :: _, _, 0, d, .cons h _, e => by
    simp at e
    subst e
    exact h.elim
  | _, _, i + 1, d, .cons _ t, e => by
    obtain ⟨v, h1, h2⟩ := ERep.get (i := i) (d := d) t (by simpa using e)
    exact ⟨v, by simpa using h1, h2⟩
theorem ERep.set {v : V} {d : D} (h : Rep K mu H v d) : ∀ {s : L2.St} {r : Env} (i : Nat), ERep K mu H s r → ERep K mu H (s.set i (some v)) (r.set i (some d))
  | _, _, _, .nil => .nil
  | _, _, 0, .cons _ t => .cons h t
  | _, _, i + 1, .cons q t => .cons q (ERep.set h i t)
theorem Reps.get : ∀ {vs : List V} {ds : List D} {i : Nat} {d : D}, Reps K mu H vs ds → ds[i]? = some d → ∃ v, vs[i]? = some v ∧ Rep K mu H v d
  | _, _, _, _, .nil, e => by simp at e
  | _, _, 0, _, .cons h _, e => by
    simp at e
    subst e
    exact ⟨_, rfl, h⟩
  | _, _, i + 1, d, .cons _ t, e => by
    obtain ⟨v, h1, h2⟩ := Reps.get (i := i) (d := d) t (by simpa using e)
    exact ⟨v, by simpa using h1, h2⟩
theorem Reps.append : ∀ {vs ws : List V} {ds es : List D}, Reps K mu H vs ds → Reps K mu H ws es → Reps K mu H (vs ++ ws) (ds ++ es)
  | _, _, _, _, .nil, s => s
  | _, _, _, _, .cons r t, s => .cons r (Reps.append t s)
theorem Reps.set {v : V} {d : D} (h : Rep K mu H v d) : ∀ {vs : List V} {ds : List D} (i : Nat), Reps K mu H vs ds → Reps K mu H (vs.set i v) (ds.set i d)
  | _, _, _, .nil => .nil
  | _, _, 0, .cons _ t => .cons h t
  | _, _, i + 1, .cons q t => .cons q (Reps.set h i t)
theorem Reps.take : ∀ {vs : List V} {ds : List D} (n : Nat), Reps K mu H vs ds → Reps K mu H (vs.take n) (ds.take n)
  | _, _, 0, _ => .nil
  | _, _, _ + 1, .nil => .nil
  | _, _, n + 1, .cons r t => .cons r (Reps.take n t)
theorem Reps.drop : ∀ {vs : List V} {ds : List D} (n : Nat), Reps K mu H vs ds → Reps K mu H (vs.drop n) (ds.drop n)
  | _, _, 0, r => r
  | _, _, _ + 1, .nil => .nil
  | _, _, n + 1, .cons _ t => Reps.drop n t
theorem MoRep.mono (e : Ext mu H mu' H') {a : Addr} (hs : H' a = H a) : ∀ {o : MO}, MoRep K mu H a o → MoRep K mu' H' a o
  | .lst _, ⟨vs, h, r⟩ => ⟨vs, hs.trans h, Reps.mono e r⟩
  | .dct _, ⟨vs, h, r⟩ => ⟨vs, hs.trans h, KReps.mono e r⟩
  | .ins _ _, ⟨dx, vs, h, r⟩ => ⟨dx, vs, hs.trans h, KReps.mono e r⟩
theorem MoRep.some {a : Addr} : ∀ {o : MO}, MoRep K mu H a o → ∃ u, H a = some u
  | .lst _, ⟨_, h, _⟩ => ⟨_, h⟩
  | .dct _, ⟨_, h, _⟩ => ⟨_, h⟩
  | .ins _ _, ⟨_, _, h, _⟩ => ⟨_, h⟩
theorem HRep.at {S : Sto} (h : HRep K mu H S) {n : Nat} {o : MO} (e : S[n]? = some o) : ∃ a, mu[n]? = some a ∧ MoRep K mu H a o := by
  have hl : n < mu.length := by rw [← h.len]; exact (List.getElem?_eq_some_iff.mp e).1
  exact ⟨mu[n], List.getElem?_eq_getElem hl, h.ob n o _ e (List.getElem?_eq_getElem hl)⟩
theorem HRep.obj {S : Sto} (h : HRep K mu H S) {n : Nat} {a : Addr} (e : mu[n]? = some a) : ∃ o, S[n]? = some o ∧ MoRep K mu H a o := by
  have hl : n < S.length := by rw [h.len]; exact (List.getElem?_eq_some_iff.mp e).1
  exact ⟨S[n], List.getElem?_eq_getElem hl, h.ob n _ a (List.getElem?_eq_getElem hl) e⟩
theorem HRep.old {S : Sto} (h : HRep K mu H S) {p : Addr} (hp : H p = none) : p ∉ mu := fun hm => by
  obtain ⟨n, e⟩ := List.getElem?_of_mem hm
  obtain ⟨o, _, q⟩ := h.obj e
  obtain ⟨u, e'⟩ := q.some
  rw [hp] at e'
  cases e'
theorem ext_tup {p : Addr} {xs : List V} (hp : H p = none) : Ext mu H mu (upd H p (.tup xs)) :=
  ⟨⟨[], by simp⟩, fun a ys h => by rw [upd_ne (ne_of_none h hp)]; exact h, fun a o u h => by rw [upd_ne (ne_of_none h hp)]; exact h⟩
/-- a new tuple -/
theorem HRep.tup {S : Sto} {p : Addr} {xs : List V} (h : HRep K mu H S) (hp : H p = none) : HRep K mu (upd H p (.tup xs)) S :=
  ⟨h.len, h.nd, fun n o a e e' => (h.ob n o a e e').mono (ext_tup hp) (upd_ne fun z => h.old hp (z ▸ List.mem_of_getElem? e'))⟩
theorem ext_new {p : Addr} {u : HO} (hp : H p = none) : Ext mu H (mu ++ [p]) (upd H p u) :=
  ⟨⟨[p], rfl⟩, fun a ys h => by rw [upd_ne (ne_of_none h hp)]; exact h, fun a o u h => by rw [upd_ne (ne_of_none h hp)]; exact h⟩
/-- a new object of the store -/
theorem HRep.new {S : Sto} {p : Addr} {u : HO} {o : MO} (h : HRep K mu H S) (hp : H p = none) (q : MoRep K (mu ++ [p]) (upd H p u) p o) : HRep K (mu ++ [p]) (upd H p u) (S ++ [o]) := by
  have hne := h.old hp
  refine ⟨by simp [h.len], ?_, fun n o' a e e' => ?_⟩
  · rw [List.nodup_append]
    exact ⟨h.nd, by simp, fun x hx y hy => by
      simp at hy
      subst hy
      exact fun z => hne (z ▸ hx)⟩
  · by_cases hn : n < S.length
    · rw [List.getElem?_append_left hn] at e
      rw [List.getElem?_append_left (by rw [← h.len]; exact hn)] at e'
      exact (h.ob n o' a e e').mono (ext_new hp) (upd_ne fun z => hne (z ▸ List.mem_of_getElem? e'))
    · have hn' : n = S.length := by
        have := (List.getElem?_eq_some_iff.mp e).1
        simp at this
        omega
      subst hn'
      simp at e
      rw [h.len] at e'
      simp at e'
      subst e e'
      exact q
theorem ext_put {p : Addr} {u u' : HO} (hp : H p = some u') (h1 : ∀ xs, u' ≠ .tup xs) (h2 : ∀ o x, u' ≠ .frz o x) : Ext mu H mu (upd H p u) :=
  ⟨⟨[], by simp⟩, fun a ys h => by
    rw [upd_ne (ne_of h hp (fun z => h1 _ z.symm))]
    exact h, fun a o x h => by
    rw [upd_ne (ne_of h hp (fun z => h2 _ _ z.symm))]
    exact h⟩
/-- an object of the store is changed -/
theorem HRep.put {S : Sto} {p : Addr} {n : Nat} {u u' : HO} {o : MO} (h : HRep K mu H S) (hn : mu[n]? = some p) (e : Ext mu H mu (upd H p u)) (q : MoRep K mu (upd H p u) p o) : HRep K mu (upd H p u) (S.set n o) := by
  refine ⟨by simp [h.len], h.nd, fun k o' a e1 e2 => ?_⟩
  by_cases hk : k = n
  · subst hk
    rw [hn] at e2
    cases e2
    have hl : k < S.length := by rw [h.len]; exact (List.getElem?_eq_some_iff.mp hn).1
    rw [List.getElem?_set_self hl] at e1
    cases e1
    exact q
  · rw [List.getElem?_set_ne (Ne.symm hk)] at e1
    refine (h.ob k o' a e1 e2).mono e (upd_ne fun z => hk ?_)
    subst z
    exact nodup_ix' h.nd e2 hn
where
  nodup_ix' {l : List Addr} (hN : l.Nodup) {i j : Nat} {x : Addr} (a : l[i]? = some x) (b : l[j]? = some x) : i = j := by
    obtain ⟨h1, e1⟩ := List.getElem?_eq_some_iff.mp a
    obtain ⟨h2, e2⟩ := List.getElem?_eq_some_iff.mp b
    exact (List.getElem_inj hN).mp (e1.trans e2.symm)
end
end Fa
namespace Fa
open PySem PySem.Spec PyProof.Rows L2
/-! ### what is wanted of a result -/
def Post {α : Type} (K : PySem.W.Frag) (W : WX) (σ : L2.St) (mu : List Addr) (H : Hp) (Q : α → Sto → List Addr → Hp → Prop) : Res α → Prop
  | .ok a S => ∀ mu' H', Ext mu H mu' H' → HRep K mu' H' S → Q a S mu' H'
  | .err x S => ∀ mu' H' cls dd, Ext mu H mu' H' → HRep K mu' H' S → XRep K mu' H' cls dd x → W cls dd σ H'
  | .bad => False
def PostO (K : PySem.W.Frag) (W : WX) (D : Ends) (mu : List Addr) (H : Hp) : Out → Prop
  | .nx r S => ∀ mu' H' σ', Ext mu H mu' H' → HRep K mu' H' S → ERep K mu' H' σ' r → D.nx σ' H'
  | .bk r S => ∀ mu' H' σ', Ext mu H mu' H' → HRep K mu' H' S → ERep K mu' H' σ' r → D.bk σ' H'
  | .ct r S => ∀ mu' H' σ', Ext mu H mu' H' → HRep K mu' H' S → ERep K mu' H' σ' r → D.ct σ' H'
  | .rt d S => ∀ mu' H' v, Ext mu H mu' H' → HRep K mu' H' S → Rep K mu' H' v d → D.rt v H'
  | .ex x r S => ∀ mu' H' σ' cls dd, Ext mu H mu' H' → HRep K mu' H' S → ERep K mu' H' σ' r → XRep K mu' H' cls dd x → W cls dd σ' H'
  | .bad => False
section
variable {α β : Type} {K : PySem.W.Frag} {W : WX} {σ : L2.St} {mu mu' : List Addr} {H H' : Hp} {D : Ends}
theorem Post.later {Q : α → Sto → List Addr → Hp → Prop} (e : Ext mu H mu' H') : ∀ {r : Res α}, Post K W σ mu H Q r → Post K W σ mu' H' Q r
  | .ok _ _, h => fun m2 H2 e2 => h m2 H2 (e.trans e2)
  | .err _ _, h => fun m2 H2 c d e2 => h m2 H2 c d (e.trans e2)
  | .bad, h => h
theorem Post.imp {Q Q' : α → Sto → List Addr → Hp → Prop} : ∀ {r : Res α}, Post K W σ mu H Q r → (∀ a S mu' H', Ext mu H mu' H' → HRep K mu' H' S → Q a S mu' H' → Q' a S mu' H') → Post K W σ mu H Q' r
  | .ok _ _, h, f => fun m2 H2 e2 r2 => f _ _ _ _ e2 r2 (h m2 H2 e2 r2)
  | .err _ _, h, _ => h
  | .bad, h, _ => h
theorem Post.bnd {Q : β → Sto → List Addr → Hp → Prop} {m : M α} {f : α → M β} {S : Sto} (h : Post K W σ mu H Q (bnd m f S)) : Post K W σ mu H (fun a S' mu' H' => Post K W σ mu' H' Q (f a S')) (m S) := by
  unfold Fa.bnd at h
  cases e : m S with
  | ok a S' => rw [e] at h; exact fun m2 H2 e2 _ => h.later e2
  | err x S' => rw [e] at h; exact h
  | bad => rw [e] at h; exact h
theorem PostO.later (e : Ext mu H mu' H') : ∀ {r : Out}, PostO K W D mu H r → PostO K W D mu' H' r
  | .nx _ _, h => fun m2 H2 s e2 => h m2 H2 s (e.trans e2)
  | .bk _ _, h => fun m2 H2 s e2 => h m2 H2 s (e.trans e2)
  | .ct _ _, h => fun m2 H2 s e2 => h m2 H2 s (e.trans e2)
  | .rt _ _, h => fun m2 H2 s e2 => h m2 H2 s (e.trans e2)
  | .ex _ _ _, h => fun m2 H2 s c d e2 => h m2 H2 s c d (e.trans e2)
  | .bad, h => h
end
/-! ### readings -/
def rdE (K : PySem.W.Frag) (W : WX) (m : Env → M D) : TE := fun σ H Q => ∃ r mu S, HRep K mu H S ∧ ERep K mu H σ r ∧ Post K W σ mu H (fun d _ mu' H' => ∀ v, Rep K mu' H' v d → Q v H') (m r S)
def rdT (K : PySem.W.Frag) (W : WX) (m : Env → M Bool) : TT := fun σ H Q => ∃ r mu S, HRep K mu H S ∧ ERep K mu H σ r ∧ Post K W σ mu H (fun b _ _ H' => Q b H') (m r S)
def rdA (K : PySem.W.Frag) (W : WX) (m : Env → M (List D)) : TA := fun σ H Q => ∃ r mu S, HRep K mu H S ∧ ERep K mu H σ r ∧ Post K W σ mu H (fun ds _ mu' H' => ∀ vs, Reps K mu' H' vs ds → Q vs H') (m r S)
def rdS (K : PySem.W.Frag) (W : WX) (m : Env → Sto → Out) : TS := fun D σ H => ∃ r mu S, HRep K mu H S ∧ ERep K mu H σ r ∧ PostO K W D mu H (m r S)
/-- simulations -/
abbrev SE (X : Cx) (W : WX) (e : Expr) (m : Env → M D) : Prop := PE X e (rdE X.K W m)
abbrev ST (X : Cx) (W : WX) (e : Expr) (m : Env → M Bool) : Prop := PT X e (rdT X.K W m)
abbrev SW (X : Cx) (W : WX) (e : Expr) (m : Env → M Bool) : Prop := PW X e (rdT X.K W m)
abbrev SA (X : Cx) (W : WX) (es : List Expr) (m : Env → M (List D)) : Prop := PA X es (rdA X.K W m)
abbrev SS (X : Cx) (W : WX) (st : Stmt) (m : Env → Sto → Out) : Prop := PS X st (rdS X.K W m)
abbrev SB (X : Cx) (W : WX) (st : List Stmt) (m : Env → Sto → Out) : Prop := PSs X st (rdS X.K W m)
theorem peI {X : Cx} {e : Expr} {t t' : TE} (h : PE X e t) (i : ∀ σ H Q, t' σ H Q → t σ H Q) : PE X e t' := ⟨fun p s σ H Q I q => h.run p s σ H Q I (i σ H Q q)⟩
theorem ptI {X : Cx} {e : Expr} {t t' : TT} (h : PT X e t) (i : ∀ σ H Q, t' σ H Q → t σ H Q) : PT X e t' := ⟨fun p s σ H Q I q => h.run p s σ H Q I (i σ H Q q)⟩
theorem pwI {X : Cx} {e : Expr} {t t' : TT} (h : PW X e t) (i : ∀ σ H Q, t' σ H Q → t σ H Q) : PW X e t' := ⟨fun w p s σ H Q I q => h.run w p s σ H Q I (i σ H Q q)⟩
theorem paI {X : Cx} {e : List Expr} {t t' : TA} (h : PA X e t) (i : ∀ σ H Q, t' σ H Q → t σ H Q) : PA X e t' := ⟨fun w p s σ H Q I q => h.run w p s σ H Q I (i σ H Q q)⟩
theorem psI {X : Cx} {e : Stmt} {t t' : TS} (h : PS X e t) (i : ∀ D σ H, t' D σ H → t D σ H) : PS X e t' := ⟨fun p s σ H D I q => h.run p s σ H D I (i D σ H q)⟩
theorem pssI {X : Cx} {e : List Stmt} {t t' : TS} (h : PSs X e t) (i : ∀ D σ H, t' D σ H → t D σ H) : PSs X e t' := ⟨fun p s σ H D I q => h.run p s σ H D I (i D σ H q)⟩
/-! ### combinators -/
def mVar (i : Nat) : Env → M D := fun r => match r[i]? with
  | some (some d) => ret d
  | _ => fail
def mC (d : D) : Env → M D := fun _ => ret d
def m1 (f : D → M D) (a : Env → M D) : Env → M D := fun r => bnd (a r) f
def m2 (f : D → D → M D) (a b : Env → M D) : Env → M D := fun r => bnd (a r) fun x => bnd (b r) fun y => f x y
def mNil : Env → M (List D) := fun _ => ret []
def mCons (a : Env → M D) (b : Env → M (List D)) : Env → M (List D) := fun r => bnd (a r) fun x => bnd (b r) fun xs => ret (x :: xs)
def mA (f : List D → M D) (a : Env → M (List D)) : Env → M D := fun r => bnd (a r) f
def tupD (ds : List D) : M D := if ds.length ≤ sizeLine then ret (.tup ds) else fail
def lstD (ds : List D) : M D := fun S => if ds.length ≤ sizeLine then .ok (.loc S.length) (S ++ [.lst ds]) else .bad
def mIf (c : Env → M Bool) (a b : Env → M D) : Env → M D := fun r => bnd (c r) fun k => if k = true then a r else b r
def isBl : D → M Bool
  | .bl b => ret b
  | _ => fail
def tOf (a : Env → M D) : Env → M Bool := fun r => bnd (a r) isBl
def tNt (a : Env → M Bool) : Env → M Bool := fun r => bnd (a r) fun b => ret (!b)
def tAn (a b : Env → M Bool) : Env → M Bool := fun r => bnd (a r) fun k => if k = true then b r else ret false
def tOr (a b : Env → M Bool) : Env → M Bool := fun r => bnd (a r) fun k => if k = true then ret true else b r
def mNot (a : Env → M D) : Env → M D := fun r => bnd (a r) fun x => bnd (isBl x) fun b => ret (.bl (!b))
def mAnd (a b : Env → M D) : Env → M D := fun r => bnd (a r) fun x => bnd (isBl x) fun k => if k = true then b r else ret (.bl false)
def mOr (a b : Env → M D) : Env → M D := fun r => bnd (a r) fun x => bnd (isBl x) fun k => if k = true then ret (.bl true) else b r
section
variable {X : Cx} {W : WX} {a b : Expr} {es : List Expr} {pos : Pos} {ma mb : Env → M D} {ms : Env → M (List D)}
theorem se_var (i : Nat) {x : Str} (h : PE X (.Name x pos) (tVar i)) : SE X W (.Name x pos) (mVar i) := peI h fun σ H Q q => by
  obtain ⟨r, mu, S, hS, he, hp⟩ := q
  unfold mVar at hp
  cases e : r[i]? with
  | none => rw [e] at hp; exact hp.elim
  | some o =>
    cases o with
    | none => rw [e] at hp; exact hp.elim
    | some d =>
      rw [e] at hp
      obtain ⟨v, hv, rv⟩ := he.get e
      exact ⟨v, hv, hp mu H Ext.refl hS v rv⟩
theorem se_c {v : V} {d : D} (h : PE X a (tC v)) (rv : ∀ K mu H, Rep K mu H v d) : SE X W a (mC d) := peI h fun σ H Q q => by
  obtain ⟨r, mu, S, hS, he, hp⟩ := q
  exact hp mu H Ext.refl hS v (rv _ _ _)
theorem se_int {i j} : SE X W (.Constant (.int i) j pos) (mC (.int i)) := se_c pe_int fun _ _ _ => .int i
theorem se_bl {i j} : SE X W (.Constant (.bool i) j pos) (mC (.bl i)) := se_c pe_bl fun _ _ _ => .bl i
theorem se_non {j} : SE X W (.Constant .none j pos) (mC .non) := se_c pe_non fun _ _ _ => .non
theorem se_str {i j} : SE X W (.Constant (.str i) j pos) (mC (.str i)) := se_c pe_str fun _ _ _ => .str i
/-- an operation on two values -/
def Op2 (K : PySem.W.Frag) (r : R2) (f : D → D → M D) : Prop := ∀ (W : WX) (σ : L2.St) mu H S x y v w (Q : VK), HRep K mu H S → Rep K mu H v x → Rep K mu H w y → Post K W σ mu H (fun d _ mu' H' => ∀ u, Rep K mu' H' u d → Q u H') (f x y S) → r v w H Q
def Op1 (K : PySem.W.Frag) (r : V → Hp → VK → Prop) (f : D → M D) : Prop := ∀ (W : WX) (σ : L2.St) mu H S x v (Q : VK), HRep K mu H S → Rep K mu H v x → Post K W σ mu H (fun d _ mu' H' => ∀ u, Rep K mu' H' u d → Q u H') (f x S) → r v H Q
def OpN (K : PySem.W.Frag) (r : List V → Hp → VK → Prop) (f : List D → M D) : Prop := ∀ (W : WX) (σ : L2.St) mu H S xs vs (Q : VK), HRep K mu H S → Reps K mu H vs xs → Post K W σ mu H (fun d _ mu' H' => ∀ u, Rep K mu' H' u d → Q u H') (f xs S) → r vs H Q
theorem two {f : D → D → M D} {r : R2} (ho : Op2 X.K r f) {σ : L2.St} {H : Hp} {Q : VK} (q : rdE X.K W (m2 f ma mb) σ H Q) : rdE X.K W ma σ H fun x H1 => rdE X.K W mb σ H1 fun y H2 => r x y H2 Q := by
  obtain ⟨r, mu, S, hS, he, hp⟩ := q
  refine ⟨r, mu, S, hS, he, hp.bnd.imp fun x S1 mu1 H1 ex hS1 q1 v rv => ?_⟩
  refine ⟨r, mu1, S1, hS1, he.mono ex, q1.bnd.imp fun y S2 mu2 H2 ex2 hS2 q2 w rw => ?_⟩
  exact ho W σ mu2 H2 S2 x y v w Q hS2 (rv.mono ex2) rw q2
theorem se_op {op : Operator} {f : D → D → M D} {r : R2} (h : OpR X (binaryOp op) r) (ho : Op2 X.K r f) (ha : SE X W a ma) (hb : SE X W b mb) : SE X W (.BinOp a op b pos) (m2 f ma mb) := peI (pe_op h ha hb) fun σ H Q q => two ho q
theorem se_cmp {op : CmpOp} {f : D → D → M D} {r : R2} (h : OpR X (compareOp op) r) (ho : Op2 X.K r f) (ha : SE X W a ma) (hb : SE X W b mb) (hm : behindInMarks op b = false) : SE X W (.Compare a [op] [b] pos) (m2 f ma mb) := peI (pe_cmpR h ha hb hm) fun σ H Q q => two ho q
theorem se_ix {f : D → D → M D} {r : R2} (h : IxR X r) (ho : Op2 X.K r f) (ha : SE X W a ma) (hb : SE X W b mb) (hs : PlainIx b) : SE X W (.Subscript a b pos) (m2 f ma mb) := peI (pe_ix h ha hb hs) fun σ H Q q => two ho q
theorem se_un {op : UnaryOp} {f : D → M D} {r : V → Hp → VK → Prop} (h : UnR X (unaryOp op) r) (ho : Op1 X.K r f) (ha : SE X W a ma) : SE X W (.UnaryOp op a pos) (m1 f ma) := peI (pe_un h ha) fun σ H Q q => by
  obtain ⟨r, mu, S, hS, he, hp⟩ := q
  exact ⟨r, mu, S, hS, he, hp.bnd.imp fun x S1 mu1 H1 ex hS1 q1 v rv => ho W σ mu1 H1 S1 x v Q hS1 rv q1⟩
theorem sa_nil : SA X W [] mNil := paI pa_nil fun σ H Q q => by
  obtain ⟨r, mu, S, hS, he, hp⟩ := q
  exact hp mu H Ext.refl hS [] .nil
theorem sa_cons (ha : SE X W a ma) (hr : SA X W es ms) (hs : starEach (a :: es) X.env = (false, eval a X.env) :: starEach es X.env := by rfl) : SA X W (a :: es) (mCons ma ms) := paI (pa_cons ha hr hs) fun σ H Q q => by
  obtain ⟨r, mu, S, hS, he, hp⟩ := q
  refine ⟨r, mu, S, hS, he, hp.bnd.imp fun x S1 mu1 H1 ex hS1 q1 v rv => ?_⟩
  refine ⟨r, mu1, S1, hS1, he.mono ex, q1.bnd.imp fun y S2 mu2 H2 ex2 hS2 q2 w rw => ?_⟩
  exact q2 mu2 H2 Ext.refl hS2 _ (.cons (rv.mono ex2) rw)
theorem args {f : List D → M D} {r : List V → Hp → VK → Prop} (ho : OpN X.K r f) {σ : L2.St} {H : Hp} {Q : VK} (q : rdE X.K W (mA f ms) σ H Q) : rdA X.K W ms σ H fun xs H1 => r xs H1 Q := by
  obtain ⟨r, mu, S, hS, he, hp⟩ := q
  exact ⟨r, mu, S, hS, he, hp.bnd.imp fun x S1 mu1 H1 ex hS1 q1 v rv => ho W σ mu1 H1 S1 x v Q hS1 rv q1⟩
theorem se_tup {x1} (h : SA X W es ms) : SE X W (.Tuple es x1 pos) (mA tupD ms) := peI (pe_tup h) fun σ H Q q => args (r := fun xs H1 Q => xs.length ≤ sizeLine ∧ ∀ p, H1 p = none → Q (.ref p) (upd H1 p (.tup xs))) (fun W σ mu H S xs vs Q hS hr hp => by
  unfold tupD at hp
  by_cases hl : xs.length ≤ sizeLine
  · rw [if_pos hl] at hp
    exact ⟨by rw [hr.length]; exact hl, fun p hn => hp mu _ (ext_tup hn) (hS.tup hn) _ (.tup (.inl (.inl upd_same)) (hr.mono (ext_tup hn)))⟩
  · rw [if_neg hl] at hp
    exact hp.elim) q
theorem se_lst (h : SA X W es ms) : SE X W (.List es pos) (mA lstD ms) := peI (pe_lst h) fun σ H Q q => args (r := fun xs H1 Q => xs.length ≤ sizeLine ∧ ∀ p, H1 p = none → Q (.ref p) (upd H1 p (.lst xs))) (fun W σ mu H S xs vs Q hS hr hp => by
  unfold lstD at hp
  by_cases hl : xs.length ≤ sizeLine
  · rw [if_pos hl] at hp
    refine ⟨by rw [hr.length]; exact hl, fun p hn => hp _ _ (ext_new hn) (hS.new hn ⟨vs, upd_same, hr.mono (ext_new hn)⟩) _ (.loc ?_)⟩
    rw [hS.len]
    simp
  · rw [if_neg hl] at hp
    exact hp.elim) q
/-! tests -/
theorem st_of (ha : SE X W a ma) (he : ∀ whole, isTrue a X.env whole = (do let v ← whole; standAt a.pos; holding [v] (truthy v)) := by intro _; rfl) : ST X W a (tOf ma) := ptI (pt_val ha he) fun σ H Q q => by
  obtain ⟨r, mu, S, hS, he, hp⟩ := q
  refine ⟨r, mu, S, hS, he, hp.bnd.imp fun x S1 mu1 H1 ex hS1 q1 v rv => ?_⟩
  cases rv <;> first | exact q1.elim | exact ⟨_, rfl, q1 mu1 H1 Ext.refl hS1⟩
theorem st_cmp {op : CmpOp} {f : D → D → M D} {r : R2} (h : OpR X (compareOp op) r) (ho : Op2 X.K r f) (ha : SE X W a ma) (hb : SE X W b mb) (hm : behindInMarks op b = false) : ST X W (.Compare a [op] [b] pos) (tOf (m2 f ma mb)) := ptI (pt_cmpR h ha hb hm) fun σ H Q q => by
  refine two (r := r) (Q := fun x H' => ∃ k, x = .bl k ∧ Q k H') ho ?_
  obtain ⟨r, mu, S, hS, he, hp⟩ := q
  refine ⟨r, mu, S, hS, he, hp.bnd.imp fun x S1 mu1 H1 ex hS1 q1 v rv => ?_⟩
  cases rv <;> first | exact q1.elim | exact ⟨_, rfl, q1 mu1 H1 Ext.refl hS1⟩
variable {ta tb : Env → M Bool} {rest : List Expr}
theorem st_not (ha : ST X W a ta) : ST X W (.UnaryOp .Not a pos) (tNt ta) := ptI (pt_not ha) fun σ H Q q => by
  obtain ⟨r, mu, S, hS, he, hp⟩ := q
  exact ⟨r, mu, S, hS, he, hp.bnd.imp fun x S1 mu1 H1 ex hS1 q1 => q1 mu1 H1 Ext.refl hS1⟩
theorem sw_and1 (ha : ST X W a ta) : SW X W (.BoolOp .And [a] pos) ta := pw_and1 ha
theorem sw_or1 (ha : ST X W a ta) : SW X W (.BoolOp .Or [a] pos) ta := pw_or1 ha
theorem sw_and (ha : ST X W a ta) (hb : SW X W (.BoolOp .And (b :: rest) pos) tb) : SW X W (.BoolOp .And (a :: b :: rest) pos) (tAn ta tb) := pwI (pw_and ha hb) fun σ H Q q => by
  obtain ⟨r, mu, S, hS, he, hp⟩ := q
  refine ⟨r, mu, S, hS, he, hp.bnd.imp fun k S1 mu1 H1 ex hS1 q1 => ?_⟩
  cases k with
  | true => rw [if_pos rfl] at q1 ⊢; exact ⟨r, mu1, S1, hS1, he.mono ex, q1⟩
  | false => rw [if_neg Bool.false_ne_true] at q1 ⊢; exact q1 mu1 H1 Ext.refl hS1
theorem sw_or (ha : ST X W a ta) (hb : SW X W (.BoolOp .Or (b :: rest) pos) tb) : SW X W (.BoolOp .Or (a :: b :: rest) pos) (tOr ta tb) := pwI (pw_or ha hb) fun σ H Q q => by
  obtain ⟨r, mu, S, hS, he, hp⟩ := q
  refine ⟨r, mu, S, hS, he, hp.bnd.imp fun k S1 mu1 H1 ex hS1 q1 => ?_⟩
  cases k with
  | true => rw [if_pos rfl] at q1 ⊢; exact q1 mu1 H1 Ext.refl hS1
  | false => rw [if_neg Bool.false_ne_true] at q1 ⊢; exact ⟨r, mu1, S1, hS1, he.mono ex, q1⟩
theorem se_if {c : Expr} (hc : ST X W c ta) (ha : SE X W a ma) (hb : SE X W b mb) : SE X W (.IfExp c a b pos) (mIf ta ma mb) := peI (pe_ifExp hc ha hb) fun σ H Q q => by
  obtain ⟨r, mu, S, hS, he, hp⟩ := q
  refine ⟨r, mu, S, hS, he, hp.bnd.imp fun k S1 mu1 H1 ex hS1 q1 => ?_⟩
  cases k with
  | true => rw [if_pos rfl] at q1 ⊢; exact ⟨r, mu1, S1, hS1, he.mono ex, q1⟩
  | false => rw [if_neg Bool.false_ne_true] at q1 ⊢; exact ⟨r, mu1, S1, hS1, he.mono ex, q1⟩
/-! and, or, not as values -/
theorem blOf {σ : L2.St} {mu : List Addr} {H : Hp} {S : Sto} {x : D} {v : V} {f : Bool → M D} {Q : D → Sto → List Addr → Hp → Prop} (rv : Rep X.K mu H v x) (h : Post X.K W σ mu H Q (bnd (isBl x) f S)) : ∃ k, v = .bl k ∧ Post X.K W σ mu H Q (f k S) := by
  cases rv <;> first | exact h.elim | exact ⟨_, rfl, h⟩
theorem se_one {op} (h : SE X W a ma) : SE X W (.BoolOp op [a] pos) ma := pe_one h
theorem se_not (ha : SE X W a ma) : SE X W (.UnaryOp .Not a pos) (mNot ma) := peI (pe_not ha) fun σ H Q q => by
  obtain ⟨r, mu, S, hS, he, hp⟩ := q
  refine ⟨r, mu, S, hS, he, hp.bnd.imp fun x S1 mu1 H1 ex hS1 q1 v rv => ?_⟩
  obtain ⟨k, rfl, q2⟩ := blOf rv q1
  exact ⟨k, rfl, q2 mu1 H1 Ext.refl hS1 _ (.bl _)⟩
theorem se_and (ha : SE X W a ma) (hb : SE X W (.BoolOp .And (b :: rest) pos) mb) : SE X W (.BoolOp .And (a :: b :: rest) pos) (mAnd ma mb) := peI (pe_and ha hb) fun σ H Q q => by
  obtain ⟨r, mu, S, hS, he, hp⟩ := q
  refine ⟨r, mu, S, hS, he, hp.bnd.imp fun x S1 mu1 H1 ex hS1 q1 v rv => ?_⟩
  obtain ⟨k, rfl, q2⟩ := blOf rv q1
  refine ⟨k, rfl, ?_⟩
  cases k with
  | true => rw [if_pos rfl] at q2 ⊢; exact ⟨r, mu1, S1, hS1, he.mono ex, q2⟩
  | false => rw [if_neg Bool.false_ne_true] at q2 ⊢; exact q2 mu1 H1 Ext.refl hS1 _ (.bl _)
theorem se_or (ha : SE X W a ma) (hb : SE X W (.BoolOp .Or (b :: rest) pos) mb) : SE X W (.BoolOp .Or (a :: b :: rest) pos) (mOr ma mb) := peI (pe_or ha hb) fun σ H Q q => by
  obtain ⟨r, mu, S, hS, he, hp⟩ := q
  refine ⟨r, mu, S, hS, he, hp.bnd.imp fun x S1 mu1 H1 ex hS1 q1 v rv => ?_⟩
  obtain ⟨k, rfl, q2⟩ := blOf rv q1
  refine ⟨k, rfl, ?_⟩
  cases k with
  | true => rw [if_pos rfl] at q2 ⊢; exact q2 mu1 H1 Ext.refl hS1 _ (.bl _)
  | false => rw [if_neg Bool.false_ne_true] at q2 ⊢; exact ⟨r, mu1, S1, hS1, he.mono ex, q2⟩
/-! built-ins by name -/
theorem se_callB {x : Str} {p : Pos} {e : Expr} {id : String} {f : List D → M D} {r : List V → Hp → VK → Prop} (hc : CallR X (.builtin id) r) (ho : OpN X.K r f) (hg : Gl X x) (hm : X.mg x = none) (hv : bootBuiltins x = some (.builtin id)) (ha : SA X W (e :: es) ms) (hn : x ≠ "__name__" := by decide) (hdb : (x == ("__debug__" : Str)) = false := by decide)
    (he : starEach (e :: es) X.env = (false, eval e X.env) :: starEach es X.env := by rfl) (hpl : (backTo pos (starEach es X.env)).any (·.1) = false := by rfl) : SE X W (.Call (.Name x p) (e :: es) [] pos) (mA f ms) := peI (pe_callB hc hg hm hv ha hn hdb he hpl) fun σ H Q q => args ho q
theorem se_callTy {x : Str} {p : Pos} {e : Expr} {id : String} {f : List D → M D} {r : List V → Hp → VK → Prop} (hc : CallR X (.type id) r) (ho : OpN X.K r f) (hg : Gl X x) (hm : X.mg x = none) (hv : bootBuiltins x = some (.type id)) (ha : SA X W (e :: es) ms) (hn : x ≠ "__name__" := by decide) (hdb : (x == ("__debug__" : Str)) = false := by decide)
    (he : starEach (e :: es) X.env = (false, eval e X.env) :: starEach es X.env := by rfl) (hpl : (backTo pos (starEach es X.env)).any (·.1) = false := by rfl) : SE X W (.Call (.Name x p) (e :: es) [] pos) (mA f ms) := peI (pe_callTy hc hg hm hv ha hn hdb he hpl) fun σ H Q q => args ho q
end
end Fa
namespace Fa
open PySem PySem.Spec PyProof.Rows L2
/-! ### statements -/
def sNx : Env → Sto → Out := fun r S => .nx r S
def sBk : Env → Sto → Out := fun r S => .bk r S
def sCt : Env → Sto → Out := fun r S => .ct r S
def sBad : Env → Sto → Out := fun _ _ => .bad
def sSeq (a b : Env → Sto → Out) : Env → Sto → Out := fun r S => match a r S with
  | .nx r' S' => b r' S'
  | o => o
def bndO {α : Type} (m : Env → M α) (f : α → Env → Sto → Out) : Env → Sto → Out := fun r S => match m r S with
  | .ok a S' => f a r S'
  | .err x S' => .ex x r S'
  | .bad => .bad
def sEx (m : Env → M D) : Env → Sto → Out := bndO m fun _ r S => .nx r S
def sRet (m : Env → M D) : Env → Sto → Out := bndO m fun d _ S => .rt d S
def sRetN : Env → Sto → Out := fun _ S => .rt .non S
def sIf (c : Env → M Bool) (a b : Env → Sto → Out) : Env → Sto → Out := bndO c fun k r S => if k = true then a r S else b r S
abbrev Tg := D → Env → M Env
def gN (i : Nat) : Tg := fun d r => ret (r.set i (some d))
def gT0 : List D → Env → M Env
  | [], r => ret r
  | _ :: _, _ => fail
def gTc (g : Tg) (k : List D → Env → M Env) : List D → Env → M Env
  | [], _ => fail
  | d :: ds, r => bnd (g d r) fun r' => k ds r'
def gT (k : List D → Env → M Env) : Tg := fun d r => match d with
  | .tup ds => k ds r
  | _ => fail
def sAs (m : Env → M D) (g : Tg) : Env → Sto → Out := bndO m fun d r S => match g d r S with
  | .ok r' S' => .nx r' S'
  | .err x S' => .ex x r S'
  | .bad => .bad
section
variable {X : Cx} {W : WX} {e : Expr} {pos : Pos} {m : Env → M D} {c : Env → M Bool} {a b : Env → Sto → Out} {st : Stmt} {rest : List Stmt}
theorem bndO_E {f : D → Env → Sto → Out} {D : Ends} {σ : L2.St} {H : Hp} (q : rdS X.K W (bndO m f) D σ H) : rdE X.K W m σ H fun v H1 => ∃ r mu S d, HRep X.K mu H1 S ∧ ERep X.K mu H1 σ r ∧ Rep X.K mu H1 v d ∧ PostO X.K W D mu H1 (f d r S) := by
  obtain ⟨r, mu, S, hS, he, hp⟩ := q
  refine ⟨r, mu, S, hS, he, ?_⟩
  unfold bndO at hp
  cases e : m r S with
  | ok d S' => rw [e] at hp; exact fun m2 H2 e2 h2 v rv => ⟨r, m2, S', d, h2, he.mono e2, rv, hp.later e2⟩
  | err x S' => rw [e] at hp; exact fun m2 H2 cl dd e2 h2 rx => hp m2 H2 σ cl dd e2 h2 (he.mono e2) rx
  | bad => rw [e] at hp; exact hp
theorem bndO_T {f : Bool → Env → Sto → Out} {D : Ends} {σ : L2.St} {H : Hp} (q : rdS X.K W (bndO c f) D σ H) : rdT X.K W c σ H fun k H1 => ∃ r mu S, HRep X.K mu H1 S ∧ ERep X.K mu H1 σ r ∧ PostO X.K W D mu H1 (f k r S) := by
  obtain ⟨r, mu, S, hS, he, hp⟩ := q
  refine ⟨r, mu, S, hS, he, ?_⟩
  unfold bndO at hp
  cases e : c r S with
  | ok d S' => rw [e] at hp; exact fun m2 H2 e2 h2 => ⟨r, m2, S', h2, he.mono e2, hp.later e2⟩
  | err x S' => rw [e] at hp; exact fun m2 H2 cl dd e2 h2 rx => hp m2 H2 σ cl dd e2 h2 (he.mono e2) rx
  | bad => rw [e] at hp; exact hp
theorem sb_nil : SB X W [] sNx := pssI pss_nil fun D σ H q => by
  obtain ⟨r, mu, S, hS, he, hp⟩ := q
  exact hp mu H σ Ext.refl hS he
theorem sb_cons (h1 : SS X W st a) (h2 : SB X W rest b) : SB X W (st :: rest) (sSeq a b) := pssI (pss_cons h1 h2) fun D σ H q => by
  obtain ⟨r, mu, S, hS, he, hp⟩ := q
  refine ⟨r, mu, S, hS, he, ?_⟩
  unfold sSeq at hp
  cases e : a r S with
  | nx r' S' => rw [e] at hp; exact fun m2 H2 s2 e2 h2 q2 => ⟨r', m2, S', h2, q2, hp.later e2⟩
  | rt d S' => rw [e] at hp; exact hp
  | bk r' S' => rw [e] at hp; exact hp
  | ct r' S' => rw [e] at hp; exact hp
  | ex x r' S' => rw [e] at hp; exact hp
  | bad => rw [e] at hp; exact hp
theorem sb_one (h1 : SS X W st a) : SB X W [st] a := pss_one h1
theorem ss_pass : SS X W (.Pass pos) sNx := psI ps_pass fun D σ H q => by
  obtain ⟨r, mu, S, hS, he, hp⟩ := q
  exact hp mu H σ Ext.refl hS he
theorem ss_break : SS X W (.Break pos) sBk := psI ps_break fun D σ H q => by
  obtain ⟨r, mu, S, hS, he, hp⟩ := q
  exact hp mu H σ Ext.refl hS he
theorem ss_continue : SS X W (.Continue pos) sCt := psI ps_continue fun D σ H q => by
  obtain ⟨r, mu, S, hS, he, hp⟩ := q
  exact hp mu H σ Ext.refl hS he
theorem ss_never : SS X W st sBad := psI ps_never fun D σ H q => by
  obtain ⟨r, mu, S, hS, he, hp⟩ := q
  exact hp
theorem ss_expr (he : SE X W e m) (hs : swapsWith e none pos.line X.env = pure false := by rfl) : SS X W (.Expr e pos) (sEx m) := psI (ps_expr he hs) fun D σ H q => by
  have q1 := bndO_E q
  obtain ⟨r, mu, S, hS, he, hp⟩ := q1
  exact ⟨r, mu, S, hS, he, hp.imp fun d S1 m2 H2 ex h2 q2 v rv => by
    obtain ⟨r', mu', S', d', h1, h3, h4, h5⟩ := q2 v rv
    exact h5 mu' H2 σ Ext.refl h1 h3⟩
theorem ss_ret (he : SE X W e m) : SS X W (.Return (some e) pos) (sRet m) := psI (ps_ret he) fun D σ H q => by
  obtain ⟨r, mu, S, hS, he, hp⟩ := bndO_E q
  exact ⟨r, mu, S, hS, he, hp.imp fun d S1 m2 H2 ex h2 q2 v rv => by
    obtain ⟨r', mu', S', d', h1, h3, h4, h5⟩ := q2 v rv
    exact h5 mu' H2 v Ext.refl h1 h4⟩
theorem ss_retN : SS X W (.Return none pos) sRetN := psI ps_retN fun D σ H q => by
  obtain ⟨r, mu, S, hS, he, hp⟩ := q
  exact hp mu H .non Ext.refl hS .non
theorem ss_if {c' : Expr} {x y : List Stmt} (hc : ST X W c' c) (ha : SB X W x a) (hb : SB X W y b) : SS X W (.If c' x y pos) (sIf c a b) := psI (ps_if hc ha hb) fun D σ H q => by
  obtain ⟨r, mu, S, hS, he, hp⟩ := bndO_T q
  refine ⟨r, mu, S, hS, he, hp.imp fun k S1 m2 H2 ex h2 q2 => ?_⟩
  obtain ⟨r', mu', S', h1, h3, h5⟩ := q2
  cases k with
  | true => rw [if_pos rfl] at h5 ⊢; exact ⟨r', mu', S', h1, h3, h5⟩
  | false => rw [if_neg Bool.false_ne_true] at h5 ⊢; exact ⟨r', mu', S', h1, h3, h5⟩
end
/-! ### targets -/
def rdG (K : PySem.W.Frag) (W : WX) (vs : List Nat) (g : Tg) : TG := fun v σ H Q => ∃ r mu S d, HRep K mu H S ∧ ERep K mu H σ r ∧ Rep K mu H v d ∧ Post K W σ mu H (fun r' _ mu' H' => ∀ σ', ERep K mu' H' σ' r' → wipe σ' vs = wipe σ vs → Q σ' H') (g d r S)
def rdGs (K : PySem.W.Frag) (W : WX) (vs : List Nat) (g : List D → Env → M Env) : TGs := fun v σ H Q => ∃ r mu S d, HRep K mu H S ∧ ERep K mu H σ r ∧ Reps K mu H v d ∧ Post K W σ mu H (fun r' _ mu' H' => ∀ σ', ERep K mu' H' σ' r' → wipe σ' vs = wipe σ vs → Q σ' H') (g d r S)
abbrev SG (X : Cx) (W : WX) (tg : Expr) (vs : List Nat) (g : Tg) : Prop := PG X tg (rdG X.K W vs g)
abbrev SGs (X : Cx) (W : WX) (tg : List Expr) (vs : List Nat) (g : List D → Env → M Env) : Prop := PGs X tg (rdGs X.K W vs g)
theorem wipe_set0 (σ : L2.St) (i : Nat) (v : Option V) : ∀ vs : List Nat, (wipe (σ.set i v) vs).set i none = (wipe σ vs).set i none := by
  intro vs
  induction vs with
  | nil => exact List.set_set ..
  | cons j vs ih =>
    show ((wipe (σ.set i v) vs).set j none).set i none = ((wipe σ vs).set j none).set i none
    by_cases hj : i = j
    · subst hj
      rw [ih]
    · rw [List.set_comm _ _ (Ne.symm hj), ih, List.set_comm _ _ hj]
theorem wipe_set (σ : L2.St) (i : Nat) (v : Option V) : ∀ vs : List Nat, i ∈ vs → wipe (σ.set i v) vs = wipe σ vs := by
  intro vs
  induction vs with
  | nil => intro h; cases h
  | cons j vs ih =>
    intro h
    show (wipe (σ.set i v) vs).set j none = (wipe σ vs).set j none
    by_cases hj : i = j
    · subst hj
      exact wipe_set0 σ i v vs
    · rcases List.mem_cons.mp h with h | h
      · exact absurd h hj
      · rw [ih h]
theorem wipe_append (σ : L2.St) (vs ws : List Nat) : wipe σ (vs ++ ws) = wipe (wipe σ ws) vs := by
  induction vs with
  | nil => rfl
  | cons j vs ih =>
    show (wipe σ (vs ++ ws)).set j none = (wipe (wipe σ ws) vs).set j none
    rw [ih]
theorem wipe_swap (σ : L2.St) (j : Nat) : ∀ ws : List Nat, wipe (σ.set j none) ws = (wipe σ ws).set j none := by
  intro ws
  induction ws with
  | nil => rfl
  | cons i ws ih =>
    show (wipe (σ.set j none) ws).set i none = ((wipe σ ws).set i none).set j none
    rw [ih]
    by_cases h : j = i
    · rw [h]
    · rw [List.set_comm _ _ h]
theorem wipe_comm (σ : L2.St) (vs ws : List Nat) : wipe (wipe σ vs) ws = wipe (wipe σ ws) vs := by
  induction vs with
  | nil => rfl
  | cons j vs ih =>
    show wipe ((wipe σ vs).set j none) ws = (wipe (wipe σ ws) vs).set j none
    rw [wipe_swap, ih]
section
variable {X : Cx} {W : WX} {pos : Pos} {es : List Expr} {e : Expr}
theorem sg_name {i : Nat} {x : Str} (h : PG X (.Name x pos) (gName i)) : SG X W (.Name x pos) [i] (gN i) := ⟨fun p s σ H v u Q I rv q => h.run p s σ H v u Q I rv (by
  obtain ⟨r, mu, S, d, hS, he, hr, hp⟩ := q
  exact hp mu H Ext.refl hS _ (he.set hr i) (wipe_set _ _ _ _ (List.mem_singleton.mpr rfl)))⟩
theorem sgs_nil : SGs X W [] [] gT0 := ⟨fun p s σ H v u Q I rv q => pgs_nil.run p s σ H v u Q I rv (by
  obtain ⟨r, mu, S, d, hS, he, hr, hp⟩ := q
  cases hr with
  | nil => exact ⟨rfl, hp mu H Ext.refl hS _ he rfl⟩
  | cons _ _ => exact hp.elim)⟩
theorem sgs_cons {vs ws : List Nat} {g : Tg} {k : List D → Env → M Env} (h1 : SG X W e vs g) (h2 : SGs X W es ws k) (hk : ∀ d r S x S', k d r S ≠ .err x S')
    (hs : (assignEach (e :: es) X.env).map (·.2) = assign e X.env :: (assignEach es X.env).map (·.2) := by rfl) : SGs X W (e :: es) (vs ++ ws) (gTc g k) := ⟨fun p s σ H v u Q I rv q => (pgs_cons h1 h2 hs).run p s σ H v u Q I rv (by
  obtain ⟨r, mu, S, d, hS, he, hr, hp⟩ := q
  cases hr with
  | nil => exact hp.elim
  | cons h t =>
    rename_i v0 vr d0 dr
    refine ⟨v0, vr, rfl, r, mu, S, d0, hS, he, h, ?_⟩
    have hp1 : Post X.K W σ mu H _ (bnd (g d0 r) (fun r' => k dr r') S) := hp
    refine hp1.bnd.imp fun r' S1 mu1 H1 ex hS1 q1 σ' he' hw => ?_
    refine ⟨r', mu1, S1, dr, hS1, he', t.mono ex, ?_⟩
    cases e : k dr r' S1 with
    | ok r2 S2 =>
      rw [e] at q1
      exact fun m2 H2 e2 h2 σ2 he2 hw2 => q1 m2 H2 e2 h2 σ2 he2 (by rw [wipe_append, wipe_append, hw2, wipe_comm σ', hw, wipe_comm σ])
    | err x S2 => exact absurd e (hk _ _ _ _ _)
    | bad => rw [e] at q1; exact q1)⟩
theorem gN_noerr {i : Nat} : ∀ d r S x S', gN i d r S ≠ .err x S' := fun _ _ _ _ _ h => by cases h
theorem gT0_noerr : ∀ d r S x S', gT0 d r S ≠ .err x S' := fun d _ _ _ _ h => by cases d <;> cases h
theorem gTc_noerr {g : Tg} {k : List D → Env → M Env} (hg : ∀ d r S x S', g d r S ≠ .err x S') (hk : ∀ d r S x S', k d r S ≠ .err x S') : ∀ d r S x S', gTc g k d r S ≠ .err x S' := fun d r S x S' h => by
  cases d with
  | nil => cases h
  | cons d ds =>
    have h' : bnd (g d r) (fun r' => k ds r') S = .err x S' := h
    unfold bnd at h'
    cases e : g d r S with
    | ok a S1 => rw [e] at h'; exact hk _ _ _ _ _ h'
    | err y S1 => exact hg _ _ _ _ _ e
    | bad => rw [e] at h'; cases h'
theorem gT_noerr {k : List D → Env → M Env} (hk : ∀ d r S x S', k d r S ≠ .err x S') : ∀ d r S x S', gT k d r S ≠ .err x S' := fun d r S x S' h => by
  cases d <;> first | exact hk _ _ _ _ _ h | cases h
theorem sg_tup {vs : List Nat} {k : List D → Env → M Env} {n j : Nat} (hc : X.calm = true) (h : SGs X W es vs k) (hn : (assignEach es X.env).length = n) (hz : ∀ ds r S r' S', k ds r S = .ok r' S' → ds.length = n) (hk : ∀ d r S x S', k d r S ≠ .err x S')
    (hst : (assignEach es X.env).findIdx? (·.1) = none := by rfl) : SG X W (.Tuple es j pos) vs (gT k) := ⟨fun p s σ H v u Q I rv q => (pg_tup hc h hn hst).run p s σ H v u Q I rv (by
  obtain ⟨r, mu, S, d, hS, he, hr, hp⟩ := q
  cases hr with
  | tup hq hrs =>
    rename_i ad ws ds
    have hp' : Post X.K W σ mu H _ (k ds r S) := hp
    refine ⟨_, _, rfl, hq, ?_, r, mu, S, _, hS, he, hrs, hp'⟩
    rw [hrs.length]
    cases e : k ds r S with
    | ok r' S' => exact hz _ _ _ _ _ e
    | err x S' => exact absurd e (hk _ _ _ _ _)
    | bad => rw [e] at hp'; exact hp'.elim
  | _ => exact hp.elim)⟩
theorem gT0_len : ∀ ds r S r' S', gT0 ds r S = .ok r' S' → ds.length = 0 := fun ds _ _ _ _ h => by cases ds with
  | nil => rfl
  | cons _ _ => cases h
theorem gTc_len {g : Tg} {k : List D → Env → M Env} {n : Nat} (hz : ∀ ds r S r' S', k ds r S = .ok r' S' → ds.length = n) : ∀ ds r S r' S', gTc g k ds r S = .ok r' S' → ds.length = n + 1 := fun ds r S r' S' h => by
  cases ds with
  | nil => cases h
  | cons d ds =>
    have h' : bnd (g d r) (fun r' => k ds r') S = .ok r' S' := h
    unfold bnd at h'
    cases e : g d r S with
    | ok a S1 => rw [e] at h'; rw [List.length_cons, hz _ _ _ _ _ h']
    | err y S1 => rw [e] at h'; cases h'
    | bad => rw [e] at h'; cases h'
variable {m : Env → M D}
theorem as_go {vs : List Nat} {g : Tg} {D : Ends} {σ : L2.St} {H : Hp} (q : rdS X.K W (sAs m g) D σ H) : rdE X.K W m σ H fun x H1 => rdG X.K W vs g x σ H1 D.nx := by
  obtain ⟨r, mu, S, hS, he, hp⟩ := bndO_E q
  refine ⟨r, mu, S, hS, he, hp.imp fun d S1 m2 H2 ex h2 q2 v rv => ?_⟩
  obtain ⟨r', mu', S', d', h1, h3, h4, h5⟩ := q2 v rv
  refine ⟨r', mu', S', d', h1, h3, h4, ?_⟩
  cases e : g d' r' S' with
  | ok r2 S2 => rw [e] at h5; exact fun m3 H3 e3 h3 σ3 he3 _ => h5 m3 H3 σ3 e3 h3 he3
  | err x S2 => rw [e] at h5; exact fun m3 H3 cl dd e3 hr3 rx => h5 m3 H3 σ cl dd e3 hr3 (h3.mono e3) rx
  | bad => rw [e] at h5; exact h5
theorem ss_set {i : Nat} {x : Str} {pos' : Pos} (hN : X.N.Nodup) (hi : X.N[i]? = some x) (hx : Loc X.env.scope x) (he : SE X W e m) (hs : swapsWith e (some (.Name x pos')) pos.line X.env = pure false := by rfl) (hf : X.fn x = true ∨ X.env.scope.names.lookup x = some .local := by first | exact .inl rfl | exact .inr rfl | assumption) :
    SS X W (.Assign [.Name x pos'] e pos) (sAs m (gN i)) := psI (ps_set hN hi hx he hs hf) fun D σ H q => by
  obtain ⟨r, mu, S, hS, he, hp⟩ := as_go (vs := [i]) q
  refine ⟨r, mu, S, hS, he, hp.imp fun d S1 m2 H2 ex h2 q2 v rv => ?_⟩
  obtain ⟨r', mu', S', d', h1, h3, h4, h5⟩ := q2 v rv
  exact h5 mu' H2 Ext.refl h1 _ (h3.set h4 i) (wipe_set _ _ _ _ (List.mem_singleton.mpr rfl))
theorem ss_as {tg : Expr} {vs : List Nat} {g : Tg} (he : SE X W e m) (hg : SG X W tg vs g) (hs : swapsWithSole [tg] e pos.line X.env = pure false := by rfl) (hw : swappedStores [tg] e X.env = pure none := by rfl)
    (h1 : (assignEach [tg] X.env).map (·.2) = [assign tg X.env] := by rfl) : SS X W (.Assign [tg] e pos) (sAs m g) := psI (ps_asg he hg hs hw h1) fun D σ H q => as_go q
end
/-! two names at once, from a written pair -/
def sPar (i j : Nat) (ms : Env → M (List D)) : Env → Sto → Out := bndO ms fun ds r S => match ds with
  | [x, y] => .nx ((r.set i (some x)).set j (some y)) S
  | _ => .bad
theorem ss_par {X : Cx} {W : WX} {i j : Nat} {x y : Str} {a b : Expr} {ms : Env → M (List D)} {px py pt pos : Pos} {kt k2 pt2} (hc : X.calm = true) (hN : X.N.Nodup) (hi : X.N[i]? = some x) (hj : X.N[j]? = some y) (hij : i ≠ j)
    (hx : X.env.scope.names.lookup x = some .local) (hy : X.env.scope.names.lookup y = some .local) (ha : SA X W [a, b] ms)
    (hw : swappedStores [.Tuple [.Name x px, .Name y py] kt pt] (.Tuple [a, b] k2 pt2) X.env = pure (some [x, y]))
    (hs : swapsWithSole [.Tuple [.Name x px, .Name y py] kt pt] (.Tuple [a, b] k2 pt2) pos.line X.env = pure false := by rfl) :
    SS X W (.Assign [.Tuple [.Name x px, .Name y py] kt pt] (.Tuple [a, b] k2 pt2) pos) (sPar i j ms) := psI (ps_par hc hN hi hj hij hx hy ha hw hs) fun D σ H q => by
  obtain ⟨r, mu, S, hS, he, hp⟩ := q
  refine ⟨r, mu, S, hS, he, ?_⟩
  unfold sPar bndO at hp
  cases e : ms r S with
  | ok d S' =>
    rw [e] at hp
    intro m2 H2 e2 h2 vs rv
    cases rv with
    | nil => exact hp.elim
    | cons r1 t =>
      cases t with
      | nil => exact hp.elim
      | cons r2 t =>
        cases t with
        | nil => exact ⟨_, _, rfl, hp m2 H2 _ e2 h2 (((he.mono e2).set r1 i).set r2 j)⟩
        | cons _ _ => exact hp.elim
  | err z S' => rw [e] at hp; exact fun m2 H2 cl dd e2 h2 rx => hp m2 H2 σ cl dd e2 h2 (he.mono e2) rx
  | bad => rw [e] at hp; exact hp
end Fa
namespace Fa
open PySem PySem.Spec PyProof.Rows L2
/-! ### what is walked -/
inductive Src where
  | items (ds : List D) | lst (n : Nat) | rng (lo : Int) (k : Nat)
def srcOf : D → M Src
  | .tup ds => ret (.items ds)
  | .rls ds => ret (.items ds)
  | .loc n => fun S => match S[n]? with
    | some (.lst _) => .ok (.lst n) S
    | _ => .bad
  | _ => fail
def rngOk (j : Int) : Bool := decide (-(2 ^ 62) ≤ j) && decide (j < 2 ^ 62)
def rngOf1 : List D → M Src
  | [.int j] => if rngOk j = true then ret (.rng 0 j.toNat) else fail
  | _ => fail
def rngOf2 : List D → M Src
  | [.int i, .int j] => if (rngOk i && rngOk j) = true then ret (.rng i (j - i).toNat) else fail
  | _ => fail
def nextD (src : Src) (i : Nat) (S : Sto) : Option (Option D) := match src with
  | .items ds => some ds[i]?
  | .lst n => match S[n]? with
    | some (.lst ds) => some ds[i]?
    | _ => none
  | .rng lo k => some (if i < k then some (.int (lo + i)) else none)
def turns (src : Src) (S : Sto) : Nat := match src with
  | .items ds => ds.length
  | .lst n => match S[n]? with
    | some (.lst ds) => ds.length
    | _ => 0
  | .rng _ k => k
def ItOk (K : PySem.W.Frag) (mu : List Addr) (H : Hp) (src : Src) (J : It) : Prop := match src with
  | .items ds => ∃ a vs, Reps K mu H vs ds ∧ ((SqT K H a vs ∧ J = Itt K a) ∨ (SqR K H a vs ∧ J = Itl K a))
  | .lst n => ∃ a, mu[n]? = some a ∧ J = Itl K a
  | .rng lo k => J = Itr lo k
def rdI (K : PySem.W.Frag) (W : WX) (m : Env → M Src) : TI := fun σ H R => ∃ r mu S, HRep K mu H S ∧ ERep K mu H σ r ∧ Post K W σ mu H (fun src _ mu' H' => ∀ J, ItOk K mu' H' src J → R J H') (m r S)
abbrev SI (X : Cx) (W : WX) (tg it : Expr) (m : Env → M Src) : Prop := PI X tg it (rdI X.K W m)
theorem SqR.sqL {K : PySem.W.Frag} {H : Hp} {a : Addr} {vs : List V} (h : SqR K H a vs) : SqL K H a vs := by
  rcases h with ⟨o, h⟩ | h
  · exact .inl (.inr ⟨o, h⟩)
  · exact .inr h
theorem ItOk.mono {K : PySem.W.Frag} {mu mu' : List Addr} {H H' : Hp} {src : Src} {J : It} (e : Ext mu H mu' H') (h : ItOk K mu H src J) : ItOk K mu' H' src J := by
  cases src with
  | items ds =>
    obtain ⟨a, vs, r, q⟩ := h
    refine ⟨a, vs, r.mono e, ?_⟩
    rcases q with ⟨q, z⟩ | ⟨q, z⟩
    · exact .inl ⟨e.sqT q, z⟩
    · exact .inr ⟨e.sqR q, z⟩
  | lst n =>
    obtain ⟨a, q, z⟩ := h
    exact ⟨a, e.get q, z⟩
  | rng lo k => exact h
theorem int_of {v : V} {K : PySem.W.Frag} {mu : List Addr} {H : Hp} {i : Int} (h : Rep K mu H v (.int i)) : v = .int i := by cases h; rfl
theorem str_of {v : V} {K : PySem.W.Frag} {mu : List Addr} {H : Hp} {i : Str} (h : Rep K mu H v (.str i)) : v = .str i := by cases h; rfl
/-- a turn: what is next, or the end -/
theorem ItOk.stop {K : PySem.W.Frag} {mu : List Addr} {H : Hp} {S : Sto} {src : Src} {J : It} {i : Nat} (h : ItOk K mu H src J) (hS : HRep K mu H S) (e : nextD src i S = some none) : J.stop i H := by
  cases src with
  | items ds =>
    obtain ⟨a, vs, r, q⟩ := h
    have hl : vs.length ≤ i := by
      rw [r.length]
      exact List.getElem?_eq_none_iff.mp (Option.some.inj e)
    rcases q with ⟨q, rfl⟩ | ⟨q, rfl⟩
    · exact ⟨vs, q, hl⟩
    · exact ⟨vs, q.sqL, hl⟩
  | lst n =>
    obtain ⟨a, q, rfl⟩ := h
    obtain ⟨o, ho, hm⟩ := hS.obj q
    simp only [nextD, ho] at e
    cases o with
    | lst ds =>
      obtain ⟨vs, h1, h2⟩ := hm
      refine ⟨vs, .inl (.inl h1), ?_⟩
      rw [h2.length]
      exact List.getElem?_eq_none_iff.mp (Option.some.inj e)
    | dct _ => cases e
    | ins _ _ => cases e
  | rng lo k =>
    cases h
    simp only [nextD] at e
    by_cases hk : i < k
    · rw [if_pos hk] at e; cases e
    · exact Nat.le_of_not_lt hk
theorem ItOk.go {K : PySem.W.Frag} {mu : List Addr} {H : Hp} {S : Sto} {src : Src} {J : It} {i : Nat} {d : D} (h : ItOk K mu H src J) (hS : HRep K mu H S) (e : nextD src i S = some (some d)) : J.go i H ∧ ∀ x H', J.yld i H x H' → H' = H ∧ Rep K mu H x d := by
  cases src with
  | items ds =>
    obtain ⟨a, vs, r, q⟩ := h
    obtain ⟨v, hv, rv⟩ := r.get (Option.some.inj e)
    rcases q with ⟨q, rfl⟩ | ⟨q, rfl⟩
    · refine ⟨⟨vs, v, q, hv⟩, fun x H' y => ⟨y.1, ?_⟩⟩
      have := y.2 vs q
      rw [hv] at this
      cases this
      exact rv
    · refine ⟨⟨vs, v, q.sqL, hv⟩, fun x H' y => ⟨y.1, ?_⟩⟩
      have := y.2 vs q.sqL
      rw [hv] at this
      cases this
      exact rv
  | lst n =>
    obtain ⟨a, q, rfl⟩ := h
    obtain ⟨o, ho, hm⟩ := hS.obj q
    simp only [nextD, ho] at e
    cases o with
    | lst ds =>
      obtain ⟨vs, h1, h2⟩ := hm
      obtain ⟨v, hv, rv⟩ := h2.get (Option.some.inj e)
      refine ⟨⟨vs, v, .inl (.inl h1), hv⟩, fun x H' y => ⟨y.1, ?_⟩⟩
      have := y.2 vs (.inl (.inl h1))
      rw [hv] at this
      cases this
      exact rv
    | dct _ => cases e
    | ins _ _ => cases e
  | rng lo k =>
    cases h
    simp only [nextD] at e
    by_cases hk : i < k
    · rw [if_pos hk] at e
      cases e
      refine ⟨hk, fun x H' y => ⟨y.1, ?_⟩⟩
      rw [y.2]
      exact .int _
    · rw [if_neg hk] at e; cases e
section
variable {X : Cx} {W : WX} {tg l : Expr} {m : Env → M D}
theorem pi_any {tl : TE} (hl : PE X l tl) : PI X tg l (fun σ H R => tl σ H fun x H1 => ∃ a, x = .ref a ∧ ((∃ xs, SqL X.K H1 a xs ∧ R (Itl X.K a) H1) ∨ ∃ xs, SqT X.K H1 a xs ∧ R (Itt X.K a) H1)) := by
  constructor
  intro pins s σ H R I h
  refine thn (hl.run pins s σ H _ I h) fun v s1 q => ?_
  obtain ⟨x, H1, I1, r1, a, rfl, q⟩ := q
  cases r1
  have fresh : ∀ b ∈ [s1.heap.objs.size], FpOk X pins H1 b := fun b hb => by
    rw [List.mem_singleton] at hb
    rw [hb]
    exact I1.fpOk (Nat.le_refl _) (I1.hok.fresh (Nat.le_refl _))
  rcases q with ⟨xs, hq, q⟩ | ⟨xs, hq, q⟩
  · obtain ⟨its, _, p, _⟩ := I1.list hq
    exact wpAny_pyIter_list p.isList ⟨_, [s1.heap.objs.size], _, _, H1, rfl, I1.kept (t' := s1.toks) fun b o e => Heap.get?_push_of_some _ e, turn_list a _, ⟨_, Heap.get?_push_size _ rfl, rfl, rfl⟩, fresh, q⟩
  · obtain ⟨its, _, p, _⟩ := I1.tuple hq
    have p' : s1.heap.IsTuple a its.toArray := p
    exact wpAny_pyIter_tuple p' ⟨_, [s1.heap.objs.size], _, _, H1, rfl, I1.kept (t' := s1.toks) fun b o e => Heap.get?_push_of_some _ e, turn_tuple a _, ⟨_, Heap.get?_push_size _ rfl, rfl, rfl⟩, fresh, q⟩
def mSrc (m : Env → M D) : Env → M Src := fun r => bnd (m r) srcOf
def mRng1 (m : Env → M (List D)) : Env → M Src := fun r => bnd (m r) rngOf1
def mRng2 (m : Env → M (List D)) : Env → M Src := fun r => bnd (m r) rngOf2
theorem si_any (hl : SE X W l m) : SI X W tg l (mSrc m) := ⟨fun pins s σ H R I q => (pi_any hl).run pins s σ H R I (by
  obtain ⟨r, mu, S, hS, he, hp⟩ := q
  refine ⟨r, mu, S, hS, he, hp.bnd.imp fun d S1 m2 H2 ex h2 q2 v rv => ?_⟩
  cases rv with
  | tup hq hr => exact ⟨_, rfl, .inr ⟨_, hq, q2 m2 H2 Ext.refl h2 _ ⟨_, _, hr, .inl ⟨hq, rfl⟩⟩⟩⟩
  | rls hq hr => exact ⟨_, rfl, .inl ⟨_, hq.sqL, q2 m2 H2 Ext.refl h2 _ ⟨_, _, hr, .inr ⟨hq, rfl⟩⟩⟩⟩
  | loc hn =>
    rename_i a n
    obtain ⟨o, ho, hm⟩ := h2.obj hn
    have q2' : Post X.K W σ m2 H2 _ (match S1[n]? with
      | some (.lst _) => Res.ok (Src.lst n) S1
      | _ => .bad) := q2
    rw [ho] at q2'
    cases o with
    | lst ds =>
      obtain ⟨vs, h1, hr⟩ := hm
      exact ⟨_, rfl, .inl ⟨vs, .inl (.inl h1), q2' m2 H2 Ext.refl h2 _ ⟨a, hn, rfl⟩⟩⟩
    | dct _ => exact q2'.elim
    | ins _ _ => exact q2'.elim
  | _ => exact q2.elim)⟩
theorem rngOk_of {j : Int} (h : rngOk j = true) : -(2 ^ 62) ≤ j ∧ j < 2 ^ 62 := by
  unfold rngOk at h
  rw [Bool.and_eq_true] at h
  exact ⟨of_decide_eq_true h.1, of_decide_eq_true h.2⟩
theorem si_range1 {a : Expr} {ms : Env → M (List D)} {p pos : Pos} (hg : Gl X "range") (hm : X.mg "range" = none) (ha : SA X W [a] ms) (hs : starEach [a] X.env = [(false, eval a X.env)] := by rfl) : SI X W tg (.Call (.Name "range" p) [a] [] pos) (mRng1 ms) := ⟨fun pins s σ H R I q => (pi_range1 hg hm ha hs).run pins s σ H R I (by
  obtain ⟨r, mu, S, hS, he, hp⟩ := q
  refine ⟨r, mu, S, hS, he, hp.bnd.imp fun ds S1 m2 H2 ex h2 q2 vs rv => ?_⟩
  match ds, vs, rv, q2 with
  | [.int j], _, .cons (.int _) .nil, q2 =>
    have q2' : Post X.K W σ m2 H2 _ ((if rngOk j = true then ret (Src.rng 0 j.toNat) else fail) S1) := q2
    by_cases hj : rngOk j = true
    · rw [if_pos hj] at q2'
      exact ⟨j, rfl, (rngOk_of hj).1, (rngOk_of hj).2, q2' m2 H2 Ext.refl h2 _ rfl⟩
    · rw [if_neg hj] at q2'
      exact q2'.elim
  | [], _, _, q2 => exact q2.elim
  | x :: _ :: _, _, _, q2 => cases x <;> exact q2.elim
  | [.non], _, _, q2 => exact q2.elim
  | [.bl _], _, _, q2 => exact q2.elim
  | [.str _], _, _, q2 => exact q2.elim
  | [.tup _], _, _, q2 => exact q2.elim
  | [.rls _], _, _, q2 => exact q2.elim
  | [.loc _], _, _, q2 => exact q2.elim
  | [.adr _], _, _, q2 => exact q2.elim
  | [.ty _], _, _, q2 => exact q2.elim)⟩
theorem si_range2 {a b : Expr} {ms : Env → M (List D)} {p pos : Pos} (hg : Gl X "range") (hm : X.mg "range" = none) (ha : SA X W [a, b] ms) (hs : starEach [a, b] X.env = [(false, eval a X.env), (false, eval b X.env)] := by rfl) (hs2 : starEach [b] X.env = [(false, eval b X.env)] := by rfl) :
    SI X W tg (.Call (.Name "range" p) [a, b] [] pos) (mRng2 ms) := ⟨fun pins s σ H R I q => (pi_range2 hg hm ha hs hs2).run pins s σ H R I (by
  obtain ⟨r, mu, S, hS, he, hp⟩ := q
  refine ⟨r, mu, S, hS, he, hp.bnd.imp fun ds S1 m2 H2 ex h2 q2 vs rv => ?_⟩
  unfold rngOf2 at q2
  split at q2
  · rename_i i j
    by_cases hj : (rngOk i && rngOk j) = true
    · rw [if_pos hj] at q2
      rw [Bool.and_eq_true] at hj
      match vs, rv with
      | _, .cons (.int _) (.cons (.int _) .nil) =>
        exact ⟨i, j, rfl, ⟨(rngOk_of hj.1).1, (rngOk_of hj.1).2, (rngOk_of hj.2).1, (rngOk_of hj.2).2⟩, q2 m2 H2 Ext.refl h2 _ rfl⟩
    · rw [if_neg hj] at q2
      exact q2.elim
  · exact q2.elim)⟩
end
/-! ### for -/
def forGo (src : Src) (g : Tg) (body : Env → Sto → Out) : Nat → Nat → Env → Sto → Out
  | 0, i, r, S => match nextD src i S with
    | some none => .nx r S
    | _ => .bad
  | k + 1, i, r, S => match nextD src i S with
    | some none => .nx r S
    | none => .bad
    | some (some d) => match g d r S with
      | .err x S' => .ex x r S'
      | .bad => .bad
      | .ok r' S' => match body r' S' with
        | .nx r2 S2 => forGo src g body k (i + 1) r2 S2
        | .ct r2 S2 => forGo src g body k (i + 1) r2 S2
        | .bk r2 S2 => .nx r2 S2
        | o => o
def sFor (m : Env → M Src) (g : Tg) (body : Env → Sto → Out) : Env → Sto → Out := bndO m fun src r S => forGo src g body (turns src S) 0 r S
theorem ss_for {X : Cx} {W : WX} {tg iter : Expr} {body : List Stmt} {m : Env → M Src} {vs : List Nat} {g : Tg} {b : Env → Sto → Out} {pos : Pos} (hp : PassesOwn (model X.prog X.w) X.A X.env X.xe) (hc : X.calm = true) (hi : SI X W tg iter m) (hg : SG X W tg vs g) (hb : SB X W body b)
    (hs : ∀ x, foldedSetIterable iter X.env x = pure x := by intro _; rfl) : SS X W (.For tg iter body [] pos) (sFor m g b) := psI (ps_for hp hc hi hg hb hs) fun D σ H q => by
  obtain ⟨r, mu, S, hS, he, hp⟩ := q
  refine ⟨r, mu, S, hS, he, ?_⟩
  unfold sFor bndO at hp
  cases e : m r S with
  | err x S' => rw [e] at hp; exact fun m2 H2 cl dd e2 h2 rx => hp m2 H2 σ cl dd e2 h2 (he.mono e2) rx
  | bad => rw [e] at hp; exact hp
  | ok src S' =>
    rw [e] at hp
    intro m2 H2 e2 h2 J hJ
    refine ⟨fun i k σ H => ∃ r mu S, HRep X.K mu H S ∧ ERep X.K mu H σ r ∧ ItOk X.K mu H src J ∧ PostO X.K W D mu H (forGo src g b k i r S), ⟨turns src S', r, m2, S', h2, he.mono e2, hJ, hp.later e2⟩, fun i k σ H hW => ?_⟩
    obtain ⟨r, mu, S, hS, he, hJ, hp⟩ := hW
    cases en : nextD src i S with
    | none =>
      exfalso
      cases k with
      | zero => unfold forGo at hp; rw [en] at hp; exact hp
      | succ k => unfold forGo at hp; rw [en] at hp; exact hp
    | some o =>
      cases o with
      | none =>
        left
        refine ⟨hJ.stop hS en, ?_⟩
        cases k with
        | zero => unfold forGo at hp; rw [en] at hp; exact hp mu H σ Ext.refl hS he
        | succ k => unfold forGo at hp; rw [en] at hp; exact hp mu H σ Ext.refl hS he
      | some d =>
        right
        obtain ⟨hgo, hy⟩ := hJ.go hS en
        cases k with
        | zero => unfold forGo at hp; rw [en] at hp; exact hp.elim
        | succ k =>
          refine ⟨hgo, fun σ H => ∃ r mu S, HRep X.K mu H S ∧ ERep X.K mu H σ r ∧ ItOk X.K mu H src J ∧ PostO X.K W D mu H (forGo src g b k (i + 1) r S), fun σ' H' hN => ⟨k, Nat.lt_succ_self k, hN⟩, fun x H' y => ?_⟩
          obtain ⟨rfl, rx⟩ := hy x H' y
          refine ⟨r, mu, S, d, hS, he, rx, ?_⟩
          unfold forGo at hp
          simp only [en] at hp
          cases eg : g d r S with
          | err x S' => simp only [eg] at hp; exact fun m3 H3 cl dd e3 h3 rx => hp m3 H3 σ cl dd e3 h3 (he.mono e3) rx
          | bad => simp only [eg] at hp; exact hp
          | ok r' S' =>
            simp only [eg] at hp
            intro m3 H3 e3 h3 σ3 he3 _
            refine ⟨r', m3, S', h3, he3, ?_⟩
            cases eb : b r' S' with
            | nx r2 S2 => rw [eb] at hp; exact fun m4 H4 σ4 e4 h4 q4 => ⟨r2, m4, S2, h4, q4, (hJ.mono e3).mono e4, (hp.later e3).later e4⟩
            | ct r2 S2 => rw [eb] at hp; exact fun m4 H4 σ4 e4 h4 q4 => ⟨r2, m4, S2, h4, q4, (hJ.mono e3).mono e4, (hp.later e3).later e4⟩
            | bk r2 S2 => rw [eb] at hp; exact fun m4 H4 σ4 e4 h4 q4 => hp m4 H4 σ4 (e3.trans e4) h4 q4
            | rt d2 S2 => rw [eb] at hp; exact fun m4 H4 σ4 e4 h4 q4 => hp m4 H4 σ4 (e3.trans e4) h4 q4
            | ex x r2 S2 => rw [eb] at hp; exact fun m4 H4 σ4 cl dd e4 h4 q4 q5 => hp m4 H4 σ4 cl dd (e3.trans e4) h4 q4 q5
            | bad => rw [eb] at hp; exact hp
/-! ### list comprehensions -/
def wipeE (r : Env) : List Nat → Env
  | [] => r
  | v :: vs => (wipeE r vs).set v none
theorem ERep.wipe {K : PySem.W.Frag} {mu : List Addr} {H : Hp} {σ : L2.St} {r : Env} (h : ERep K mu H σ r) : ∀ vs : List Nat, ERep K mu H (wipe σ vs) (wipeE r vs)
  | [] => h
  | v :: vs => setN v (ERep.wipe h vs)
where
  setN {K : PySem.W.Frag} {mu : List Addr} {H : Hp} : ∀ {s : L2.St} {r : Env} (i : Nat), ERep K mu H s r → ERep K mu H (s.set i none) (r.set i none)
    | _, _, _, .nil => .nil
    | _, _, 0, .cons _ t => .cons trivial t
    | _, _, i + 1, .cons q t => .cons q (setN i t)
def push (n : Nat) (d : D) : Sto → Option Sto := fun S => match S[n]? with
  | some (.lst ds) => if ds.length < sizeLine then some (S.set n (.lst (ds ++ [d]))) else none
  | _ => none
def lcGo (src : Src) (g : Tg) (t : Env → M Bool) (e : Env → M D) (n : Nat) (r : Env) : Nat → Nat → Sto → Res D
  | 0, i, S => match nextD src i S with
    | some none => .ok (.loc n) S
    | _ => .bad
  | k + 1, i, S => match nextD src i S with
    | some none => .ok (.loc n) S
    | none => .bad
    | some (some d) => match g d r S with
      | .ok r' S' => match t r' S' with
        | .ok true S2 => match e r' S2 with
          | .ok y S3 => match push n y S3 with
            | some S4 => lcGo src g t e n r k (i + 1) S4
            | none => .bad
          | _ => .bad
        | .ok false S2 => lcGo src g t e n r k (i + 1) S2
        | _ => .bad
      | _ => .bad
def mLc (m : Env → M Src) (g : Tg) (t : Env → M Bool) (e : Env → M D) (vs : List Nat) : Env → M D := fun r => bnd (m r) fun src S => lcGo src g t e S.length (wipeE r vs) (turns src S) 0 (S ++ [.lst []])
abbrev W0 : WX := fun _ _ _ _ => False
theorem push_of {K : PySem.W.Frag} {mu : List Addr} {H : Hp} {S S' : Sto} {n : Nat} {d : D} {a : Addr} {v : V} (hS : HRep K mu H S) (hn : mu[n]? = some a) (rv : Rep K mu H v d) (h : push n d S = some S') : ∃ acc, H a = some (.lst acc) ∧ acc.length < sizeLine ∧ Ext mu H mu (upd H a (.lst (acc ++ [v]))) ∧ HRep K mu (upd H a (.lst (acc ++ [v]))) S' := by
  obtain ⟨o, ho, hm⟩ := hS.obj hn
  unfold push at h
  rw [ho] at h
  cases o with
  | lst ds =>
    obtain ⟨vs, h1, hr⟩ := hm
    by_cases hl : ds.length < sizeLine
    · have h' : (if ds.length < sizeLine then some (S.set n (.lst (ds ++ [d]))) else none) = some S' := h
      rw [if_pos hl] at h'
      cases h'
      have ex : Ext mu H mu (upd H a (.lst (vs ++ [v]))) := ext_put h1 (fun xs z => by cases z) (fun o x z => by cases z)
      refine ⟨vs, h1, by rw [hr.length]; exact hl, ex, hS.put (u' := .lst vs) hn ex ⟨_, upd_same, (hr.append (.cons rv .nil)).mono ex⟩⟩
    · have h' : (if ds.length < sizeLine then some (S.set n (.lst (ds ++ [d]))) else none) = some S' := h
      rw [if_neg hl] at h'
      cases h'
  | dct _ => cases h
  | ins _ _ => cases h
structure PTsS (X : Cx) (ifs : List Expr) (t : Env → M Bool) : Prop where
  to : PTs X ifs (rdT X.K W0 t)
def tT : Env → M Bool := fun _ => ret true
theorem pts0 {X : Cx} : PTs X [] (rdT X.K W0 tT) := ⟨fun p s σ H Q I q => pts_nil.run p s σ H Q I (by
  obtain ⟨r, mu, S, hS, he, hp⟩ := q
  exact hp mu H Ext.refl hS)⟩
theorem lc_go {X : Cx} {W : WX} {m : Env → M Src} {vs : List Nat} {g : Tg} {t : Env → M Bool} {e : Env → M D} {σ : L2.St} {H : Hp} {Q : VK} (q : rdE X.K W (mLc m g t e vs) σ H Q) : tLc (rdI X.K W m) (rdG X.K W0 vs g) (rdT X.K W0 t) (rdE X.K W0 e) vs σ H Q := by
  obtain ⟨r, mu, S, hS, he, hp⟩ := q
  refine ⟨r, mu, S, hS, he, hp.bnd.imp fun src S1 m2 H2 ex h2 q2 J hJ D hD => ?_⟩
  have hn : (m2 ++ [D])[S1.length]? = some D := by rw [h2.len]; simp
  refine ⟨fun i k H => ∃ mu S, HRep X.K mu H S ∧ Ext (m2 ++ [D]) (upd H2 D (.lst [])) mu H ∧ Post X.K W σ mu H (fun d _ mu' H' => ∀ v, Rep X.K mu' H' v d → Q v H') (lcGo src g t e S1.length (wipeE r vs) k i S), ⟨turns src S1, m2 ++ [D], S1 ++ [.lst []], h2.new (o := .lst []) hD ⟨[], upd_same, .nil⟩, Ext.refl, q2.later (ext_new hD)⟩, fun i k H hW => ?_⟩
  obtain ⟨mu, S, hS, ex2, hp⟩ := hW
  have hJ' := (hJ.mono (ext_new hD)).mono ex2
  have he' := ((he.mono ex).mono (ext_new (u := .lst []) hD)).mono ex2
  have hn' := ex2.get hn
  cases en : nextD src i S with
  | none =>
    exfalso
    cases k with
    | zero => unfold lcGo at hp; rw [en] at hp; exact hp
    | succ k => unfold lcGo at hp; rw [en] at hp; exact hp
  | some o =>
    cases o with
    | none =>
      left
      refine ⟨hJ'.stop hS en, ?_⟩
      cases k with
      | zero => unfold lcGo at hp; rw [en] at hp; exact hp mu H Ext.refl hS _ (.loc hn')
      | succ k => unfold lcGo at hp; rw [en] at hp; exact hp mu H Ext.refl hS _ (.loc hn')
    | some d =>
      right
      obtain ⟨hgo, hy⟩ := hJ'.go hS en
      cases k with
      | zero => unfold lcGo at hp; rw [en] at hp; exact hp.elim
      | succ k =>
        refine ⟨hgo, fun H => ∃ mu S, HRep X.K mu H S ∧ Ext (m2 ++ [D]) (upd H2 D (.lst [])) mu H ∧ Post X.K W σ mu H (fun d _ mu' H' => ∀ v, Rep X.K mu' H' v d → Q v H') (lcGo src g t e S1.length (wipeE r vs) k (i + 1) S), fun H' hN => ⟨k, Nat.lt_succ_self k, hN⟩, fun x H' y => ?_⟩
        obtain ⟨rfl, rx⟩ := hy x H' y
        refine ⟨wipeE r vs, mu, S, d, hS, he'.wipe vs, rx, ?_⟩
        unfold lcGo at hp
        simp only [en] at hp
        cases eg : g d (wipeE r vs) S with
        | err x S' => simp only [eg] at hp; exact hp.elim
        | bad => simp only [eg] at hp; exact hp
        | ok r' S' =>
          simp only [eg] at hp
          intro m3 H3 e3 h3 σ3 he3 hw
          have wi2 : wipe (wipe σ vs) vs = wipe σ vs := wipe_twice σ vs
          refine ⟨by rw [hw, wi2], r', m3, S', h3, he3, ?_⟩
          cases et : t r' S' with
          | err x S2 => rw [et] at hp; exact hp.elim
          | bad => rw [et] at hp; exact hp
          | ok kk S2 =>
            rw [et] at hp
            intro m4 H4 e4 h4
            cases kk with
            | false =>
              rw [if_neg Bool.false_ne_true]
              exact ⟨m4, S2, h4, (ex2.trans e3).trans e4, (hp.later e3).later e4⟩
            | true =>
              rw [if_pos rfl]
              refine ⟨r', m4, S2, h4, he3.mono e4, ?_⟩
              cases ee : e r' S2 with
              | err x S3 => simp only [ee] at hp; exact hp.elim
              | bad => simp only [ee] at hp; exact hp
              | ok yv S3 =>
                simp only [ee] at hp
                intro m5 H5 e5 h5 v rv
                cases ep : push S1.length yv S3 with
                | none => rw [ep] at hp; exact hp.elim
                | some S4 =>
                  rw [ep] at hp
                  obtain ⟨acc, p1, p2, p3, p4⟩ := push_of h5 (((e3.trans e4).trans e5).get hn') rv ep
                  exact ⟨acc, p1, p2, m5, S4, p4, (((ex2.trans e3).trans e4).trans e5).trans p3, (((hp.later e3).later e4).later e5).later p3⟩
where
  wipe_twice (σ : L2.St) (vs : List Nat) : wipe (wipe σ vs) vs = wipe σ vs := by
    have : ∀ ws : List Nat, (∀ i ∈ ws, i ∈ vs) → wipe (wipe σ vs) ws = wipe σ vs := by
      intro ws
      induction ws with
      | nil => intro _; rfl
      | cons j ws ih =>
        intro h
        show (wipe (wipe σ vs) ws).set j none = wipe σ vs
        rw [ih fun i hi => h i (List.mem_cons_of_mem _ hi)]
        rw [← wipe_swap, wipe_set]
        exact h j List.mem_cons_self
    exact this vs fun _ h => h
theorem se_lc {X : Cx} {W : WX} {elt tg iter : Expr} {ifs : List Expr} {scope : Scope} {own : List (Str × Nat)} {pos : Pos} {m : Env → M Src} {g : Tg} {t : Env → M Bool} {e : Env → M D} (hc : X.calm = true) (hN : X.N.Nodup) (hi : SI X W tg iter m) (ok : BlkOk X.N X.env.scope scope own)
    (hg : ∀ (s : Shared) (H : Hp) (C : Addr) (cl : List (Str × Addr)) (fp : List Addr), SG (X.blk s H scope (compEnvC scope cl C X.env) fp) W0 tg (own.map (·.2)) g)
    (ht : ∀ (s : Shared) (H : Hp) (C : Addr) (cl : List (Str × Addr)) (fp : List Addr), PTs (X.blk s H scope (compEnvC scope cl C X.env) fp) ifs (rdT X.K W0 t))
    (he : ∀ (s : Shared) (H : Hp) (C : Addr) (cl : List (Str × Addr)) (fp : List Addr), SE (X.blk s H scope (compEnvC scope cl C X.env) fp) W0 elt e) (hs : ∀ x, foldedSetIterable iter X.env x = pure x := by intro _; rfl) :
    SE X W (.ListComp elt [⟨tg, iter, ifs, 0⟩] scope pos) (mLc m g t e (own.map (·.2))) := peI (pe_lc hc hN hi ok hg ht he hs) fun σ H Q q => lc_go q
theorem ss_setLc {X : Cx} {W : WX} {i : Nat} {y : Str} {py : Pos} {elt tg iter : Expr} {ifs : List Expr} {scope : Scope} {own : List (Str × Nat)} {pos spos : Pos} {m : Env → M Src} {g : Tg} {t : Env → M Bool} {e : Env → M D} (hc : X.calm = true) (hN : X.N.Nodup) (hy : X.N[i]? = some y) (hyl : X.env.scope.names.lookup y = some .local)
    (hsw : swapsWith (.ListComp elt [⟨tg, iter, ifs, 0⟩] scope pos) (some (.Name y py)) spos.line X.env = pure true) (hi : SI X W tg iter m) (ok : BlkOk X.N X.env.scope scope own)
    (hg : ∀ (s : Shared) (H : Hp) (C : Addr) (cl : List (Str × Addr)) (fp : List Addr), SG (X.blk s H scope (compEnvC scope cl C X.env) fp) W0 tg (own.map (·.2)) g)
    (ht : ∀ (s : Shared) (H : Hp) (C : Addr) (cl : List (Str × Addr)) (fp : List Addr), PTs (X.blk s H scope (compEnvC scope cl C X.env) fp) ifs (rdT X.K W0 t))
    (he : ∀ (s : Shared) (H : Hp) (C : Addr) (cl : List (Str × Addr)) (fp : List Addr), SE (X.blk s H scope (compEnvC scope cl C X.env) fp) W0 elt e) (hs : ∀ x, foldedSetIterable iter X.env x = pure x := by intro _; rfl) :
    SS X W (.Assign [.Name y py] (.ListComp elt [⟨tg, iter, ifs, 0⟩] scope pos) spos) (sAs (mLc m g t e (own.map (·.2))) (gN i)) := psI (ps_setLc hc hN hy hyl hsw hi ok hg ht he hs) fun D σ H q => lc_go (by
  obtain ⟨r, mu, S, hS, he, hp⟩ := as_go (vs := [i]) q
  refine ⟨r, mu, S, hS, he, hp.imp fun d S1 m2 H2 ex h2 q2 v rv => ?_⟩
  obtain ⟨r', mu', S', d', h1, h3, h4, h5⟩ := q2 v rv
  exact h5 mu' H2 Ext.refl h1 _ (h3.set h4 i) (wipe_set _ _ _ _ (List.mem_singleton.mpr rfl)))
end Fa
namespace Fa
open PySem PySem.Spec PyProof.Rows L2
/-! ### defs: called where no repr runs -/
def prom (K : PySem.W.Frag) (F : List D → M D) : Sp := fun vs H Q E => ∃ ds mu S, HRep K mu H S ∧ Reps K mu H vs ds ∧ Post K (fun c d _ H => E c d H) [] mu H (fun d _ mu' H' => ∀ v, Rep K mu' H' v d → Q v H') (F ds S)
def FnG (P : Program) (w : World) (K : PySem.W.Frag) (mg : Str → Option Value) (base : Heap) (k : Nat) (f : Addr) (fd : FuncData) (ps : List Str) (F : List D → M D) : Prop :=
  ∀ (A : Around) (outer : List PySem.Env) (s : Shared) (H : Hp) (ar : Args) (us : List Value) (vs : List V) (Q : VK) (E : XK), Room k A → A.guards = some [] → Env0 P w K mg base A outer s H →
    BindsTo s fd ar (ps.zip us) → Vals vs us → vs.length = ps.length → prom K F vs H Q E → codeAny (model P w) A (.call (.ref f) ar) (CR (L2.CX P w) outer P w H s Q E) s
theorem FnG.mono {P : Program} {w : World} {K : PySem.W.Frag} {mg : Str → Option Value} {base : Heap} {j k : Nat} {f : Addr} {fd : FuncData} {ps : List Str} {F : List D → M D} (G : FnG P w K mg base j f fd ps F) (h : j ≤ k) : FnG P w K mg base k f fd ps F :=
  fun A outer s H ar us vs Q E hr => G A outer s H ar us vs Q E (hr.mono h)
/-- the def's function: n names, np parameters -/
def fnM (n np : Nat) (body : Env → Sto → Out) : List D → M D := fun ds S => if ds.length = np then
    match body (ds.map some ++ List.replicate (n - np) none) S with
    | .nx _ S' => .ok .non S'
    | .rt d S' => .ok d S'
    | .ex x _ S' => .err x S'
    | _ => .bad
  else .bad
theorem erep_start {K : PySem.W.Frag} {mu : List Addr} {H : Hp} (n : Nat) : ∀ {vs : List V} {ds : List D}, Reps K mu H vs ds → ERep K mu H (vs.map some ++ List.replicate n none) (ds.map some ++ List.replicate n none)
  | _, _, .nil => by
    induction n with
    | zero => exact .nil
    | succ n ih => exact .cons trivial ih
  | _, _, .cons h t => .cons h (erep_start n t)
abbrev WF (E : XK) : WX := fun c d _ H => E c d H
theorem fnG_mk {P : Program} {w : World} {K : PySem.W.Frag} {mg : Str → Option Value} {base : Heap} {x qual : Str} {st : Stmt} {f : Addr} {fd : FuncData} {N ps : List Str} {k : Nat} {m : Env → Sto → Out} (Fu : Fun K x qual st f fd) (sc : FnScope N ps (defScope st))
    (hb : ∀ (cdv : Value) (A : Around) (outer : List PySem.Env) (s : Shared) (H : Hp) (E : XK), Room k (A.deeper (envOfC qual (defScope st) s.heap.objs.size f cdv)) → A.guards = some [] →
      Takes (cxOf (L2.CX P w) P w K mg base N qual (defScope st) f cdv A outer s H E) (WF E) → SB (cxOf (L2.CX P w) P w K mg base N qual (defScope st) f cdv A outer s H E) (WF E) (defBody st) m) :
    FnG P w K mg base (k + 1) f fd ps (fnM N.length ps.length m) := by
  intro A outer s H ar us vs Q E hr hgd e0 hbi rv hl hpr
  obtain ⟨oc, od, kV, doc, pm, an, cdv, ct, osl, rfl, lk, hcd⟩ := Fu.ex
  have kept : ∀ b o, base.get? b = some o → s.heap.get? b = some o := fun b o q => (e0.bs b o q).1
  have KX : K.In s.heap := e0.mod.kin.keeps kept
  have hkind : ∀ y ∈ ps.zip us, (defScope st).names.lookup y.1 = some .local ∨ ((defScope st).names.lookup y.1 = some .cell ∧ ((cellsFrom (s.heap.objs.size + 1) (defScope st).names []).lookup y.1).isSome = true) := by
    intro y hy
    rcases sc.par y.1 (List.of_mem_zip (a := y.1) (b := y.2) hy).1 with z | z
    · exact Or.inl z
    · exact Or.inr ⟨z, PySem.W.cellsFrom_some _ _ _ (.inl z)⟩
  refine codeAny_call_function hr.depth (KX _ _ lk) rfl sc.co sc.gen rfl (PySem.W.codeRec_of KX hcd) (hbi _ _ _ _ ?_)
  refine wpAny_newFunctionEnv_cells sc.kind hkind fun env he s1 inC => ?_
  subst he
  refine ⟨(e0.mod.nolimit.keeps kept).keeps inC.toInCall.keep, codeAny_func ?_⟩
  have I := inv_start (CX := L2.CX P w) (E := E) sc hr.hd e0 hl rv inC
  have B := hb cdv A outer s H E (hr.deeper _) hgd (takes_of rfl rfl rfl rfl)
  obtain ⟨ds, mu, S, hS, hrs, hp⟩ := hpr
  refine wpAny_mono (B.run [] s1 (start N vs) H { nx := fun _ H' => Q .non H', rt := Q } I ?_) (fun fl s' hs => ?_) fun e s' hs => hs
  · refine ⟨_, mu, S, hS, erep_start _ hrs, ?_⟩
    rw [hl]
    have hl2 : ds.length = ps.length := by rw [← hrs.length]; exact hl
    unfold fnM at hp
    rw [if_pos hl2] at hp
    cases eo : m (ds.map some ++ List.replicate (N.length - ps.length) none) S with
    | nx r S' => rw [eo] at hp; exact fun m2 H2 σ2 e2 h2 _ => hp m2 H2 e2 h2 _ .non
    | rt d S' => rw [eo] at hp; exact fun m2 H2 v e2 h2 q2 => hp m2 H2 e2 h2 v q2
    | bk r S' => rw [eo] at hp; exact hp.elim
    | ct r S' => rw [eo] at hp; exact hp.elim
    | ex z r S' => rw [eo] at hp; exact fun m2 H2 σ2 c dd e2 h2 _ q2 => hp m2 H2 c dd e2 h2 q2
    | bad => rw [eo] at hp; exact hp
  · cases fl with
    | ret u =>
      obtain ⟨v, σ', H', J, r', q⟩ := hs
      exact ⟨v, H', J.os, J.bare, J.base, J.hok, r', q⟩
    | next =>
      obtain ⟨σ', H', J, q⟩ := hs
      exact ⟨V.non, H', J.os, J.bare, J.base, J.hok, rfl, q⟩
    | brk => exact hs.elim fun _ z => z.elim fun _ z => z.2.elim
    | cont => exact hs.elim fun _ z => z.elim fun _ z => z.2.elim
/-! ### calls of defs -/
section
variable {X : Cx} {W : WX} {k : Nat} {f : Addr} {fd : FuncData} {ps ks : List Str} {F : List D → M D} {x : Str} {p pos : Pos} {e : Expr} {es : List Expr} {kws : List Keyword} {ms mk : Env → M (List D)}
theorem runG {pins : List (Addr × Obj)} {σ : L2.St} {H : Hp} {s : Shared} {Q : VK} {ar : Args} {us : List Value} {vs : List V} (G : FnG X.prog X.w X.K X.mg X.base k f fd ps F) (hr : Room k X.A) (hgd : X.A.guards = some []) (tk : Takes X W)
    (I : Inv X pins σ H s) (hbi : BindsTo s fd ar (ps.zip us)) (rv : Vals vs us) (hl : vs.length = ps.length) (h : prom X.K F vs H Q (WE W σ)) : wpAny (model X.prog X.w) X.A (call (.ref f) ar.pos ar.kw) (EP X pins σ Q) X.xe s := by
  refine wpAny_call (codeAny_mono (G X.A X.stack s H ar us vs Q (WE W σ) hr hgd I.env0 hbi rv hl h) fun res s' hq => ?_)
  cases res with
  | error y => exact passAt tk σ pins H s y s' I hq
  | ok fl =>
    cases fl with
    | ret u => exact I.after hq
    | _ => exact False.elim hq
theorem prom_of {σ : L2.St} {mu : List Addr} {H : Hp} {S : Sto} {ds : List D} {vs : List V} {Q : VK} (hS : HRep X.K mu H S) (hr : Reps X.K mu H vs ds) (h : Post X.K W σ mu H (fun d _ mu' H' => ∀ v, Rep X.K mu' H' v d → Q v H') (F ds S)) : prom X.K F vs H Q (WE W σ) := by
  refine ⟨ds, mu, S, hS, hr, ?_⟩
  cases eo : F ds S with
  | ok d S' => rw [eo] at h; exact h
  | err z S' => rw [eo] at h; exact h
  | bad => rw [eo] at h; exact h
/-- how many arguments the def takes; with others it is not called here -/
def arity (n : Nat) (F : List D → M D) : Prop := ∀ ds S, ds.length ≠ n → F ds S = .bad
theorem fnM_arity {n np : Nat} {b : Env → Sto → Out} : arity np (fnM n np b) := fun ds S h => by
  unfold fnM
  rw [if_neg h]
theorem se_call (G : FnG X.prog X.w X.K X.mg X.base k f fd ps F) (hr : Room k X.A) (hgd : X.A.guards = some []) (tk : Takes X W) (hg : Gl X x) (hm : X.mg x = some (.ref f)) (hk : PySem.W.keepIn X.K (.ref f) = true) (hb : Binds X.K fd ps []) (ar : arity ps.length F)
    (ha : SA X W (e :: es) ms) (hdb : (x == ("__debug__" : Str)) = false := by decide) (he : starEach (e :: es) X.env = (false, eval e X.env) :: starEach es X.env := by rfl) (hpl : (backTo pos (starEach es X.env)).any (·.1) = false := by rfl) :
    SE X W (.Call (.Name x p) (e :: es) [] pos) (mA F ms) := by
  constructor
  intro pins s σ H Q I q
  obtain ⟨r, mu, S, hS, hE, hp⟩ := q
  refine wpAny_Call_Name_kw (ld_glob I hg hm ?_ hdb)
  have q1 : rdA X.K W ms σ H fun vs H1 => vs.length = ps.length ∧ prom X.K F vs H1 Q (WE W σ) := by
    refine ⟨r, mu, S, hS, hE, hp.bnd.imp fun ds S1 m2 H2 ex h2 q2 vs rv => ?_⟩
    refine ⟨?_, prom_of h2 rv q2⟩
    rw [rv.length]
    refine Decidable.byContradiction fun z => ?_
    rw [ar ds S1 z] at q2
    exact q2
  refine PySem.W.callWith_K (h₀ := X.base) I.ok.mod.kin hk (thn (ha.run pos pins s σ H _ I q1) fun us s1 z => ?_) he hpl
  obtain ⟨vs, H1, I1, rv, hl, hpr⟩ := z
  refine ⟨I1.kIn, runG (ar := ⟨us, []⟩) (us := us) G hr hgd tk I1 ?_ rv hl hpr⟩
  have b := hb s1 us I1.kIn (by rw [List.append_nil, ← rv.length]; exact hl)
  rwa [List.append_nil] at b
end
/-! ### the law's own call -/
theorem law_go {P : Program} {w : World} {K : PySem.W.Frag} {mg mb : Str → Option Value} {k : Nat} {fa a : Addr} {fd : FuncData} {x : Str} {F : List D → M D} {s : Shared} {vs : List Value} {ns : List Int}
    (KX : K.In s.heap) (hns : s.heap.Ns mainGlobals mg) (hbn : s.heap.Ns builtinsNs mb) (hbb : ∀ y : Str, y ≠ "__name__" → mb y = bootBuiltins y) (hlim : s.heap.NoLimit) (hgen : s.gens = #[])
    (ha : s.heap.get? a = some { cls := .type "list", data := .seq vs.toArray }) (hi : IntsAre vs ns) (hlen : ns.length ≤ sizeLine) (hr : Room k callerA)
    (hF : ∀ base : Heap, K.In base → base.Ns mainGlobals mg → FnG P w K mg base k fa fd [x] F) (hbi : ∀ (s : Shared) (u : Value), BindsTo s fd ⟨[u], []⟩ [(x, u)])
    (hG : ∃ S, F [.rls (ns.map D.int)] [] = .ok (.bl true) S) :
    codeAny (model P w) callerA (.call (.ref fa) ⟨[.ref a], []⟩) (fun r s' => r = .ok (.ret (.bool true)) ∧ OldK s.heap s'.heap ∧ s'.os = s.os ∧ AllBare s'.gens) s := by
  have rv : Vals (ns.map V.int) vs := vals_ints hi
  have reps : ∀ (H : Hp) (l : List Int), Reps K [] H (l.map V.int) (l.map D.int) := fun H l => by
    induction l with
    | nil => exact .nil
    | cons n l ih => exact .cons (.int n) ih
  -- H tracks nothing but, perhaps, the script
  have go : ∀ H : Hp, (∀ b, H b = none ∨ (b = a ∧ ∃ o xs, H b = some (.frz o (.lst xs)))) → SqR K H a (ns.map V.int) → HOk P w H s.heap → (∀ o, K.lookup a = some o → H a = none) →
      codeAny (model P w) callerA (.call (.ref fa) ⟨[.ref a], []⟩) (fun r s' => r = .ok (.ret (.bool true)) ∧ OldK s.heap s'.heap ∧ s'.os = s.os ∧ AllBare s'.gens) s := by
    intro H hO hS hok hK
    have keep : ∀ (b : Addr) (o : Obj), s.heap.get? b = some o → (∀ es ep, o.data = .dict es ep → H b = none) := fun b o e es ep d => by
      rcases hO b with z | ⟨rfl, _⟩
      · exact z
      · rw [ha] at e
        cases e
        cases d
    have nsK : ∀ {b : Addr} {m : Str → Option Value}, s.heap.Ns b m → (hidT s.heap H).Ns b m := fun {b m} n => by
      obtain ⟨o, es, ep, e, d, rest⟩ := n
      exact ⟨o, es, ep, hidT_get e (keep b o e es ep d), d, rest⟩
    have kb : K.In (hidT s.heap H) := fun b o e => hidT_get (KX b o e) (by
      rcases hO b with z | ⟨rfl, _⟩
      · exact z
      · exact hK o e)
    have md : Mod K mg (hidT s.heap H) := by
      obtain ⟨mc, h1, h2⟩ := hlim
      exact ⟨kb, nsK hns, ⟨mb, nsK hbn, hbb⟩, ⟨mc, nsK h1, h2⟩⟩
    have e0 : Env0 P w K mg (hidT s.heap H) callerA [] s H := ⟨rfl, md, fun b o e => of_hidT e, Nat.le_of_eq (hidT_size _ _), trivial, fun b hb => absurd (show b ∈ ([] : List Addr) from hb) (by simp), hok, .of_eq hgen⟩
    obtain ⟨S, eS⟩ := hG
    have pr : prom K F [.ref a] H (fun v _ => v = .bl true) (fun _ _ _ => False) := by
      refine ⟨[.rls (ns.map D.int)], [], [], ⟨rfl, List.nodup_nil, fun n o b e => by simp at e⟩, .cons (.rls hS (reps H ns)) .nil, ?_⟩
      rw [eS]
      intro m2 H2 _ _ v q
      cases q
      rfl
    refine codeAny_mono (hF _ kb (nsK hns) callerA [] s H ⟨[.ref a], []⟩ [.ref a] [.ref a] _ _ hr rfl e0 (hbi s (.ref a)) (.cons rfl .nil) rfl pr) fun res s' h => ?_
    cases res with
    | error e =>
      obtain ⟨_, _, _, _, _, _, _, _, _, _, _, _, z⟩ := h
      exact z.elim
    | ok fl =>
      cases fl with
      | ret u =>
        obtain ⟨v, H', os, bare, un, hok', r', q⟩ := h
        obtain rfl : v = .bl true := q
        cases r'
        refine ⟨rfl, OldK.of_keep fun b o e => ?_, os, bare⟩
        rcases hO b with z | ⟨_, ob, xs, z⟩
        · exact un.keep b o e z (fun y => absurd (show b ∈ ([] : List Addr) from y) (by simp)) (by simp)
        · have z2 := (hok' b _ (un.frzs b ob _ z)).1
          have z1 := (hok b _ z).1
          rw [e] at z1
          cases z1
          exact z2
      | _ => exact False.elim h
  cases hk : K.lookup a with
  | some o =>
    have e := KX a o hk
    rw [ha] at e
    cases e
    exact go (fun _ => none) (fun _ => .inl rfl) (.inr ⟨_, vs.toArray, _, hk, rfl, rfl, rfl, by rw [List.size_toArray, hi.length]; exact hlen, rv⟩) (fun b u z => absurd (show (none : Option HO) = some u from z) (by simp)) fun _ _ => rfl
  | none =>
    refine go (upd (fun _ => none) a (.frz { cls := .type "list", data := .seq vs.toArray } (.lst (ns.map V.int)))) (fun b => ?_) (.inl ⟨_, upd_same⟩) (fun b u z => ?_) fun o e => absurd (hk.symm.trans e) (by simp)
    · by_cases hb : b = a
      · subst hb
        exact .inr ⟨rfl, _, _, upd_same⟩
      · exact .inl (upd_ne hb)
    · by_cases hb : b = a
      · subst hb
        rw [upd_same] at z
        cases z
        exact ⟨ha, by rw [List.length_map]; exact hlen, vs, _, rv, ha⟩
      · rw [upd_ne hb] at z
        cases z
theorem law_walk {l : PySem.W.OpenLaw} {n k : Nat} {q : Program} {loose : List Str} {XP : (Str → Option Value) → Heap → Prop} {YP : World → Heap → Prop} {d : DefRec} {K : Params → PySem.W.Frag} {x : Str}
    (hn : l.most = some n) (hn2 : n ≤ sizeLine) (hdf : d.params.defaults = []) (hr : Room k callerA) (hY : ∀ (w : World) (h : Heap), YP w h → (K w.params).In h)
    (hF : ∀ (w : World) (mg : Str → Option Value) (fa : Addr) (h : Heap), (K w.params).In h → h.Ns mainGlobals mg → mg d.name = some (.ref fa) →
      ∃ (fd : FuncData) (F : List D → M D), (∀ (s : Shared) (u : Value), BindsTo s fd ⟨[u], []⟩ [(x, u)]) ∧ (∀ ns : List Int, ns.length ≤ n → ∃ S, F [.rls (ns.map D.int)] [] = .ok (.bl true) S) ∧
        ∀ base : Heap, (K w.params).In base → base.Ns mainGlobals mg → FnG l.prog w (K w.params) mg base k fa fd [x] F) :
    PySem.W.WalkO q loose XP YP l.row.toRowW d [] (fun f vs => PySem.call f vs) := by
  refine Att.attach_call hn hdf fun w s0 s1 mg mb fa o pm cd doc a vs ns G Y ho hd hcd hmg hobj hints hlen hg => ?_
  obtain ⟨fd, F, hb, hG, hf⟩ := hF w mg fa _ (hY w _ Y) G.T.g hmg
  exact law_go (hY w _ Y) G.T.g G.T.b G.T.builtins G.T.nolimit hg hobj hints (Nat.le_trans hlen hn2) hr hf hb (hG ns hlen)
end Fa
namespace Fa
open PySem PySem.Spec PyProof.Rows L2
/-! ### numbers -/
def i2 (C : Int → Int → Bool) (g : Int → Int → D) : D → D → M D
  | .int i, .int j => if C i j = true then ret (g i j) else fail
  | _, _ => fail
def i2b (g : Int → Int → Bool) : D → D → M D
  | .int i, .int j => ret (.bl (g i j))
  | _, _ => fail
def mulC (i j : Int) : Bool := (decide (-(2 ^ 64) < i) && decide (i < 2 ^ 64)) || (decide (-(2 ^ 64) < j) && decide (j < 2 ^ 64))
def divC (_ j : Int) : Bool := decide (j ≠ 0) && decide (j.natAbs < 1073741824)
def modC (_ j : Int) : Bool := decide (j ≠ 0)
def powC (i j : Int) : Bool := decide (0 ≤ j) && decide ((Builtin.Int.intBits i : Int) * j ≤ 2 ^ 27)
def subD : D → D → M D := i2 (fun _ _ => true) fun i j => .int (i - j)
def mulD : D → D → M D := i2 mulC fun i j => .int (i * j)
def fdivD : D → D → M D := i2 divC fun i j => .int (i.fdiv j)
def modD : D → D → M D := i2 modC fun i j => .int (i.fmod j)
def powD : D → D → M D := i2 powC fun i j => .int (i ^ j.toNat)
section
variable {X : Cx} {K : PySem.W.Frag}
theorem op2_i {C : Int → Int → Prop} {B : Int → Int → Bool} {g : Int → Int → V} {g' : Int → Int → D} (hC : ∀ i j, B i j = true → C i j) (hg : ∀ i j mu H, Rep K mu H (g i j) (g' i j)) : Op2 K (rI C g) (i2 B g') := by
  intro W σ mu H S x y v w Q hS rx ry hp
  cases rx <;> first | exact hp.elim | skip
  cases ry <;> first | exact hp.elim | skip
  rename_i i j
  have hp' : Post K W σ mu H _ ((if B i j = true then ret (g' i j) else fail) S) := hp
  by_cases h : B i j = true
  · rw [if_pos h] at hp'
    exact ⟨i, j, rfl, rfl, hC i j h, hp' mu H Ext.refl hS _ (hg i j mu H)⟩
  · rw [if_neg h] at hp'
    exact hp'.elim
theorem op2_i0 {g : Int → Int → V} {g' : Int → Int → D} (hg : ∀ i j mu H, Rep K mu H (g i j) (g' i j)) : Op2 K (rI0 g) (i2 (fun _ _ => true) g') := by
  intro W σ mu H S x y v w Q hS rx ry hp
  cases rx <;> first | exact hp.elim | skip
  cases ry <;> first | exact hp.elim | skip
  rename_i i j
  exact ⟨i, j, rfl, rfl, hp mu H Ext.refl hS _ (hg i j mu H)⟩
theorem o_sub : Op2 K (rI0 fun i j => .int (i - j)) subD := op2_i0 fun i j _ _ => .int _
theorem o_mul : Op2 K (rI CMul fun i j => .int (i * j)) mulD := op2_i (fun i j h => by
  unfold mulC at h
  simp only [Bool.or_eq_true, Bool.and_eq_true, decide_eq_true_eq] at h
  exact h) fun i j _ _ => .int _
theorem o_fdiv : Op2 K (rI CDivN fun i j => .int (i.fdiv j)) fdivD := op2_i (fun i j h => by
  unfold divC at h
  simp only [Bool.and_eq_true, decide_eq_true_eq] at h
  exact h) fun i j _ _ => .int _
theorem o_mod : Op2 K (rI (fun _ j => j ≠ 0) fun i j => .int (i.fmod j)) modD := op2_i (fun i j h => by
  unfold modC at h
  exact of_decide_eq_true h) fun i j _ _ => .int _
theorem op_powG : OpR X (binaryOp .Pow) (rI (fun i j => powC i j = true) fun i j => .int (i ^ j.toNat)) := opI fun i j _ _ _ _ _ hc q => by
  unfold powC at hc
  simp only [Bool.and_eq_true, decide_eq_true_eq] at hc
  exact pow_int hc.1 hc.2 q
theorem o_pow : Op2 K (rI (fun i j => powC i j = true) fun i j => .int (i ^ j.toNat)) powD := op2_i (fun i j h => h) fun i j _ _ => .int _
def negD : D → M D
  | .int i => ret (.int (-i))
  | _ => fail
theorem o_neg : Op1 K (rU fun i => .int (-i)) negD := by
  intro W σ mu H S x v Q hS rx hp
  cases rx <;> first | exact hp.elim | skip
  exact ⟨_, rfl, hp mu H Ext.refl hS _ (.int _)⟩
/-! ### + -/
def addD : D → D → M D
  | .int i, .int j => ret (.int (i + j))
  | .str a, .str b => if a.length + b.length ≤ sizeLine then ret (.str (a ++ b)) else fail
  | .tup a, .tup b => if a.length + b.length ≤ sizeLine then ret (.tup (a ++ b)) else fail
  | .loc a, .loc b => fun S => match S[a]?, S[b]? with
    | some (.lst xs), some (.lst ys) => if xs.length + ys.length ≤ sizeLine then .ok (.loc S.length) (S ++ [.lst (xs ++ ys)]) else .bad
    | _, _ => .bad
  | _, _ => fail
def rAddAll (K : PySem.W.Frag) : R2 := fun x y H Q => rI0 (fun i j => .int (i + j)) x y H Q ∨ (∃ i j, x = .str i ∧ y = .str j ∧ i.length + j.length ≤ sizeLine ∧ Q (.str (i ++ j)) H) ∨ rCatA K x y H Q ∨ rCat x y H Q
theorem op_addAll : OpR X (binaryOp .Add) (rAddAll X.K) := op_add.or (op_add_str.or (op_catA.or op_cat))
theorem o_add : Op2 K (rAddAll K) addD := by
  intro W σ mu H S x y v w Q hS rx ry hp
  cases rx with
  | int i =>
    cases ry <;> first | exact hp.elim | skip
    exact .inl ⟨_, _, rfl, rfl, hp mu H Ext.refl hS _ (.int _)⟩
  | str a =>
    cases ry <;> first | exact hp.elim | skip
    rename_i b
    have hp' : Post K W σ mu H _ ((if a.length + b.length ≤ sizeLine then ret (D.str (a ++ b)) else fail) S) := hp
    by_cases h : a.length + b.length ≤ sizeLine
    · rw [if_pos h] at hp'
      exact .inr (.inl ⟨a, b, rfl, rfl, h, hp' mu H Ext.refl hS _ (.str _)⟩)
    · rw [if_neg h] at hp'
      exact hp'.elim
  | tup ha r1 =>
    cases ry <;> first | exact hp.elim | skip
    rename_i a xs ds b ys es hb r2
    have hp' : Post K W σ mu H _ ((if ds.length + es.length ≤ sizeLine then ret (D.tup (ds ++ es)) else fail) S) := hp
    by_cases h : ds.length + es.length ≤ sizeLine
    · rw [if_pos h] at hp'
      refine .inr (.inr (.inl ⟨a, b, xs, ys, rfl, rfl, ha, hb, by rw [r1.length, r2.length]; exact h, ?_⟩))
      refine ⟨fun hn => ?_, fun h1 hn => ?_, fun h1 h2 p hp0 => ?_⟩
      · subst hn
        cases r1
        exact hp' mu H Ext.refl hS _ (.tup hb r2)
      · subst hn
        cases r2
        rw [List.append_nil] at hp'
        exact hp' mu H Ext.refl hS _ (.tup ha r1)
      · exact hp' mu _ (ext_tup hp0) (hS.tup hp0) _ (.tup (.inl (.inl upd_same)) ((r1.append r2).mono (ext_tup hp0)))
    · rw [if_neg h] at hp'
      exact hp'.elim
  | loc ha =>
    cases ry <;> first | exact hp.elim | skip
    rename_i a n b m hb
    obtain ⟨o1, e1, q1⟩ := hS.obj ha
    obtain ⟨o2, e2, q2⟩ := hS.obj hb
    have hp' : Post K W σ mu H _ (match S[n]?, S[m]? with
      | some (.lst xs), some (.lst ys) => if xs.length + ys.length ≤ sizeLine then Res.ok (D.loc S.length) (S ++ [.lst (xs ++ ys)]) else .bad
      | _, _ => .bad) := hp
    rw [e1, e2] at hp'
    cases o1 with
    | lst xs =>
      cases o2 with
      | lst ys =>
        obtain ⟨vs, h1, r1⟩ := q1
        obtain ⟨ws, h2, r2⟩ := q2
        simp only at hp'
        by_cases h : xs.length + ys.length ≤ sizeLine
        · rw [if_pos h] at hp'
          refine .inr (.inr (.inr ⟨a, b, vs, ws, rfl, rfl, h1, h2, by rw [r1.length, r2.length]; exact h, fun p hp0 => ?_⟩))
          refine hp' _ _ (ext_new hp0) (hS.new (o := .lst (xs ++ ys)) hp0 ⟨_, upd_same, (r1.append r2).mono (ext_new hp0)⟩) _ (.loc ?_)
          rw [hS.len]
          simp
        · rw [if_neg h] at hp'
          exact hp'.elim
      | dct _ => exact hp'.elim
      | ins _ _ => exact hp'.elim
    | dct _ => exact hp'.elim
    | ins _ _ => exact hp'.elim
  | _ => exact hp.elim
/-! ### data as a whole: == and repr -/
def snapL (f : D → Option PyData) : List D → Option (List PyData)
  | [] => some []
  | d :: ds => match f d, snapL f ds with
    | some a, some as => some (a :: as)
    | _, _ => none
def snap (S : Sto) : Nat → D → Option PyData
  | 0, _ => none
  | n + 1, d => match d with
    | .non => some .none
    | .bl b => some (.bool b)
    | .int i => some (.int i)
    | .str x => some (.str x)
    | .tup ds => (snapL (snap S n) ds).map .tuple
    | .rls ds => (snapL (snap S n) ds).map .list
    | .loc k => match S[k]? with
      | some (.lst ds) => (snapL (snap S n) ds).map .list
      | _ => none
    | _ => none
theorem snapL_dp {mu : List Addr} {H : Hp} {f : D → Option PyData} (hf : ∀ d v p, f d = some p → Rep K mu H v d → Dp K H v p) : ∀ {ds : List D} {vs : List V} {ps : List PyData}, snapL f ds = some ps → Reps K mu H vs ds → DpAll K H vs ps
  | _, _, ps, e, .nil => by
    cases e
    exact .nil
  | d :: ds, _, ps, e, .cons r t => by
    unfold snapL at e
    cases e1 : f d with
    | none => rw [e1] at e; cases e
    | some a =>
      cases e2 : snapL f ds with
      | none => rw [e1, e2] at e; cases e
      | some as =>
        rw [e1, e2] at e
        cases e
        exact .cons (hf _ _ _ e1 r) (snapL_dp hf e2 t)
theorem map_some {α β : Type} {o : Option α} {f : α → β} {b : β} (h : o.map f = some b) : ∃ a, o = some a ∧ f a = b := by
  cases o with
  | none => cases h
  | some a => exact ⟨a, rfl, Option.some.inj h⟩
theorem snap_dp {mu : List Addr} {H : Hp} {S : Sto} (hS : HRep K mu H S) : ∀ (n : Nat) (d : D) (v : V) (p : PyData), snap S n d = some p → Rep K mu H v d → Dp K H v p
  | 0, _, _, _, e, _ => by cases e
  | n + 1, d, v, p, e, r => by
    unfold snap at e
    cases r with
    | non => cases e; exact .non
    | bl b => cases e; exact .bl b
    | int b => cases e; exact .int b
    | str b => cases e; exact .str b
    | ty _ => cases e
    | adr _ => cases e
    | tup h r =>
      obtain ⟨ps, e1, e2⟩ := map_some e
      subst e2
      exact .tup h (snapL_dp (snap_dp hS n) e1 r)
    | rls h r =>
      obtain ⟨ps, e1, e2⟩ := map_some e
      subst e2
      exact .lst h.sqL (snapL_dp (snap_dp hS n) e1 r)
    | loc h =>
      obtain ⟨o, ho, q⟩ := hS.obj h
      simp only [ho] at e
      cases o with
      | lst ds =>
        obtain ⟨vs, h1, r1⟩ := q
        obtain ⟨ps, e1, e2⟩ := map_some e
        subst e2
        exact .lst (.inl (.inl h1)) (snapL_dp (snap_dp hS n) e1 r1)
      | dct _ => cases e
      | ins _ _ => cases e
def eqS (neg : Bool) : D → D → M D := fun x y S => match snap S 40 x, snap S 40 y with
  | some a, some b => if (SeqAt.shaped a && SeqAt.shaped b) = true then .ok (.bl (if neg then !(PyData.eqv a b) else PyData.eqv a b)) S else .bad
  | _, _ => .bad
def eqB (neg : Bool) : D → D → M D
  | .str a, .str b => ret (.bl (if neg then !decide (a = b) else decide (a = b)))
  | .int a, .int b => ret (.bl (if neg then !decide (a = b) else decide (a = b)))
  | .bl a, .bl b => ret (.bl (if neg then !decide (a = b) else decide (a = b)))
  | x, y => eqS neg x y
theorem eq_some {W : WX} {σ : L2.St} {mu : List Addr} {H : Hp} {S : Sto} {x y : D} {v w : V} {Q : VK} {neg : Bool} (hS : HRep K mu H S) (rx : Rep K mu H v x) (ry : Rep K mu H w y) (hp : Post K W σ mu H (fun d _ mu' H' => ∀ u, Rep K mu' H' u d → Q u H') (eqS neg x y S)) :
    ∃ d e, Dp K H v d ∧ Dp K H w e ∧ SeqAt.shaped d = true ∧ SeqAt.shaped e = true ∧ Q (.bl (if neg then !(PyData.eqv d e) else PyData.eqv d e)) H := by
  unfold eqS at hp
  cases e1 : snap S 40 x with
  | none => rw [e1] at hp; exact hp.elim
  | some a =>
    cases e2 : snap S 40 y with
    | none => rw [e1, e2] at hp; exact hp.elim
    | some b =>
      simp only [e1, e2] at hp
      by_cases h : (SeqAt.shaped a && SeqAt.shaped b) = true
      · rw [if_pos h] at hp
        rw [Bool.and_eq_true] at h
        exact ⟨a, b, snap_dp hS _ _ _ _ e1 rx, snap_dp hS _ _ _ _ e2 ry, h.1, h.2, hp mu H Ext.refl hS _ (.bl _)⟩
      · rw [if_neg h] at hp
        exact hp.elim
def rEqA (K : PySem.W.Frag) : R2 := fun x y H Q => rEq x y H Q ∨ rEqD K x y H Q
def rNeA (K : PySem.W.Frag) : R2 := fun x y H Q => rNe x y H Q ∨ rNeD K x y H Q
theorem op_eqA (hu : X.A.units + 64 < cLine) : OpR X (compareOp .Eq) (rEqA X.K) := op_eq.or (op_eqD hu)
theorem op_neA (hu : X.A.units + 64 < cLine) : OpR X (compareOp .NotEq) (rNeA X.K) := op_ne.or (op_neD hu)
theorem dec_s (a b : Str) : decide (V.str a = V.str b) = decide (a = b) := by
  by_cases h : a = b
  · rw [h]; simp
  · rw [decide_eq_false h, decide_eq_false fun z => h (V.str.inj z)]
theorem dec_i (a b : Int) : decide (V.int a = V.int b) = decide (a = b) := by
  by_cases h : a = b
  · rw [h]; simp
  · rw [decide_eq_false h, decide_eq_false fun z => h (V.int.inj z)]
theorem dec_b (a b : Bool) : decide (V.bl a = V.bl b) = decide (a = b) := by
  by_cases h : a = b
  · rw [h]; simp
  · rw [decide_eq_false h, decide_eq_false fun z => h (V.bl.inj z)]
theorem o_eq : Op2 K (rEqA K) (eqB false) := fun W σ mu H S x y v w Q hS rx ry hp => by
  cases x <;> cases y <;> first
    | exact .inr (eq_some (neg := false) hS rx ry hp)
    | (cases rx; cases ry; exact .inl ⟨rfl, by rw [dec_s]; exact hp mu H Ext.refl hS _ (.bl _)⟩)
    | (cases rx; cases ry; exact .inl ⟨rfl, by rw [dec_i]; exact hp mu H Ext.refl hS _ (.bl _)⟩)
    | (cases rx; cases ry; exact .inl ⟨rfl, by rw [dec_b]; exact hp mu H Ext.refl hS _ (.bl _)⟩)
theorem o_ne : Op2 K (rNeA K) (eqB true) := fun W σ mu H S x y v w Q hS rx ry hp => by
  cases x <;> cases y <;> first
    | exact .inr (eq_some (neg := true) hS rx ry hp)
    | (cases rx; cases ry; exact .inl ⟨rfl, by rw [dec_s]; exact hp mu H Ext.refl hS _ (.bl _)⟩)
    | (cases rx; cases ry; exact .inl ⟨rfl, by rw [dec_i]; exact hp mu H Ext.refl hS _ (.bl _)⟩)
    | (cases rx; cases ry; exact .inl ⟨rfl, by rw [dec_b]; exact hp mu H Ext.refl hS _ (.bl _)⟩)
/-! ### order -/
def toI : List D → Option (List Int)
  | [] => some []
  | .int i :: ds => (toI ds).map (i :: ·)
  | _ :: _ => none
/-- from the left, the first that differs; then the lengths -/
def lexB (rel : Int → Int → Bool) (z : Nat → Nat → Bool) : List Int → List Int → Bool
  | x :: xs, y :: ys => if x = y then lexB rel z xs ys else rel x y
  | [], ys => z 0 ys.length
  | xs, [] => z xs.length 0
def ordD (rel : Int → Int → Bool) (z : Nat → Nat → Bool) : D → D → M D
  | .int i, .int j => ret (.bl (rel i j))
  | .tup a, .tup b => match toI a, toI b with
    | some xs, some ys => ret (.bl (lexB rel z xs ys))
    | _, _ => fail
  | _, _ => fail
theorem toI_reps {mu : List Addr} {H : Hp} : ∀ {ds : List D} {vs : List V} {ns : List Int}, toI ds = some ns → Reps K mu H vs ds → vs = ns.map V.int := by
  intro ds
  induction ds with
  | nil =>
    intro vs ns e r
    cases r
    cases e
    rfl
  | cons d ds ih =>
    intro vs ns e r
    cases r with
    | cons h t =>
      cases d with
      | int i =>
        cases h
        obtain ⟨ps, e1, e2⟩ := map_some e
        subst e2
        rw [ih e1 t]
        rfl
      | _ => cases e
theorem lexAt_shift (e r : Nat → Bool) (z : Bool) : ∀ (k i : Nat), Ob.lexAt (fun j => e (j + 1)) (fun j => r (j + 1)) z i k = Ob.lexAt e r z (i + 1) k
  | 0, _ => rfl
  | k + 1, i => by
    rw [Ob.lexAt_succ, Ob.lexAt_succ, lexAt_shift e r z k (i + 1)]
theorem lexAt_B (rel : Int → Int → Bool) (z : Nat → Nat → Bool) (hz : ∀ a b, z (a + 1) (b + 1) = z a b) : ∀ ns ms : List Int, Ob.lexAt (fun j => decide (ns.getD j 0 = ms.getD j 0)) (fun j => rel (ns.getD j 0) (ms.getD j 0)) (z ns.length ms.length) 0 (min ns.length ms.length) = lexB rel z ns ms
  | [], ys => by
    rw [List.length_nil, Nat.zero_min]
    rfl
  | x :: xs, [] => by
    rw [List.length_nil, Nat.min_zero]
    rfl
  | x :: xs, y :: ys => by
    rw [List.length_cons, List.length_cons, Nat.succ_min_succ, Ob.lexAt_succ, hz]
    unfold lexB
    rw [← lexAt_B rel z hz xs ys]
    show (if decide (x = y) = true then Ob.lexAt _ _ _ (0 + 1) _ else rel x y) = _
    rw [← lexAt_shift]
    by_cases h : x = y
    · rw [if_pos h, if_pos (decide_eq_true h)]
      rfl
    · rw [if_neg h, if_neg (by rw [decide_eq_false h]; exact Bool.false_ne_true)]
def rOrd (K : PySem.W.Frag) (rel : Int → Int → Bool) (z : Nat → Nat → Bool) : R2 := fun x y H Q => (∃ i j, x = .int i ∧ y = .int j ∧ Q (.bl (rel i j)) H) ∨ ∃ a b ns ms, x = .ref a ∧ y = .ref b ∧ SqT K H a (ns.map V.int) ∧ SqT K H b (ms.map V.int) ∧ Q (.bl (lexB rel z ns ms)) H
theorem op_ord {op : CmpOp} {rel : Int → Int → Bool} {z : Nat → Nat → Bool} (hu : X.A.units < cLine) (hz : ∀ a b, z (a + 1) (b + 1) = z a b)
    (hc : ∀ v u, compareOp op v u = richCompare op v u) (hi : ∀ (A : Around) (s : Shared) (a b : Int) (t u : Tok), Ob.RcOp op A s (.int a t) (.int b u) (rel a b))
    (ht : ∀ {A : Around} {s : Shared} {l b : Addr} {items items2 : Array Value} {e r : Nat → Bool}, s.heap.IsTuple l items → s.heap.IsTuple b items2 → A.units < cLine → (∀ j (h1 : j < items.size) (h2 : j < items2.size), SeqAt.EqAt A.in1 s items[j] items2[j] (e j)) →
      (∀ j (h1 : j < items.size) (h2 : j < items2.size), e j = false → Ob.RcOp op A.in1 s items[j] items2[j] (r j)) → Ob.RcOp op A s (.ref l) (.ref b) (Ob.lexAt e r (z items.size items2.size) 0 (min items.size items2.size))) :
    OpR X (compareOp op) (rOrd X.K rel z) := by
  intro pins s σ H x y v u Q I rx ry h
  rw [hc]
  rcases h with ⟨i, j, rfl, rfl, q⟩ | ⟨a, b, ns, ms, rfl, rfl, ha, hb, q⟩
  · obtain ⟨t, rfl⟩ := rx
    obtain ⟨t', rfl⟩ := ry
    exact hi _ _ i j t t' _ _ _ _ ⟨.bl _, H, I, rfl, q⟩
  · cases rx
    cases ry
    obtain ⟨its, r1, p1, _⟩ := I.tuple ha
    obtain ⟨its2, r2, p2, _⟩ := I.tuple hb
    have i1 : IntsAre its ns := Vals.ints r1
    have i2 : IntsAre its2 ms := Vals.ints r2
    have at1 : ∀ j (h1 : j < its.toArray.size), ∃ t, its.toArray[j] = .int (ns.getD j 0) t := fun j h1 => IntsAre.int_at i1 _ _ (by simp at h1; simp [h1])
    have at2 : ∀ j (h1 : j < its2.toArray.size), ∃ t, its2.toArray[j] = .int (ms.getD j 0) t := fun j h1 => IntsAre.int_at i2 _ _ (by simp at h1; simp [h1])
    have R := ht (A := X.A) (s := s) (e := fun j => decide (ns.getD j 0 = ms.getD j 0)) (r := fun j => rel (ns.getD j 0) (ms.getD j 0)) p1 p2 hu (fun j h1 h2 => by
      obtain ⟨t, et⟩ := at1 j h1
      obtain ⟨t', et'⟩ := at2 j h2
      rw [et, et', show decide (ns.getD j 0 = ms.getD j 0) = (ns.getD j 0 == ms.getD j 0) from (Bool.beq_eq_decide_eq _ _).symm]
      exact SeqAt.EqAt.int_int _ _ _ _) (fun j h1 h2 _ => by
      obtain ⟨t, et⟩ := at1 j h1
      obtain ⟨t', et'⟩ := at2 j h2
      rw [et, et']
      exact hi _ _ _ _ _ _)
    rw [show its.toArray.size = ns.length by rw [List.size_toArray]; exact i1.length, show its2.toArray.size = ms.length by rw [List.size_toArray]; exact i2.length, lexAt_B rel z hz] at R
    exact R X.prog X.w X.xe (EP X pins σ Q) ⟨.bl _, H, I, rfl, q⟩
theorem o_ord {rel : Int → Int → Bool} {z : Nat → Nat → Bool} : Op2 K (rOrd K rel z) (ordD rel z) := by
  intro W σ mu H S x y v w Q hS rx ry hp
  cases rx with
  | int i =>
    cases ry <;> first | exact hp.elim | skip
    exact .inl ⟨_, _, rfl, rfl, hp mu H Ext.refl hS _ (.bl _)⟩
  | tup ha r1 =>
    cases ry <;> first | exact hp.elim | skip
    rename_i a xs ds b ys es hb r2
    have hp' : Post K W σ mu H _ ((match toI ds, toI es with
      | some xs, some ys => ret (D.bl (lexB rel z xs ys))
      | _, _ => fail) S) := hp
    cases e1 : toI ds with
    | none => rw [e1] at hp'; exact hp'.elim
    | some ns =>
      cases e2 : toI es with
      | none => rw [e1, e2] at hp'; exact hp'.elim
      | some ms =>
        simp only [e1, e2] at hp'
        exact .inr ⟨a, b, ns, ms, rfl, rfl, by rw [← toI_reps e1 r1]; exact ha, by rw [← toI_reps e2 r2]; exact hb, hp' mu H Ext.refl hS _ (.bl _)⟩
  | _ => exact hp.elim
def ltI (a b : Int) : Bool := decide (a < b)
def leI (a b : Int) : Bool := decide (a ≤ b)
def gtI (a b : Int) : Bool := decide (b < a)
def geI (a b : Int) : Bool := decide (b ≤ a)
def ltD : D → D → M D := ordD ltI fun a b => decide (a < b)
def leD : D → D → M D := ordD leI fun a b => decide (a ≤ b)
def gtD : D → D → M D := ordD gtI fun a b => decide (a > b)
def geD : D → D → M D := ordD geI fun a b => decide (a ≥ b)
theorem op_ltA (hu : X.A.units < cLine) : OpR X (compareOp .Lt) (rOrd X.K ltI fun a b => decide (a < b)) := op_ord hu (fun a b => by simp) (fun _ _ => rfl) (fun _ _ _ _ _ _ => Ob.RcOp.lt_int _ _ _ _) fun h1 h2 h3 h4 h5 => Ob.RcOp.tuples_lt h1 h2 h3 h4 h5
theorem op_leA (hu : X.A.units < cLine) : OpR X (compareOp .LtE) (rOrd X.K leI fun a b => decide (a ≤ b)) := op_ord hu (fun a b => by simp) (fun _ _ => rfl) (fun _ _ _ _ _ _ => Ob.RcOp.le_int _ _ _ _) fun h1 h2 h3 h4 h5 => Ob.RcOp.tuples_le h1 h2 h3 h4 h5
theorem op_gtA (hu : X.A.units < cLine) : OpR X (compareOp .Gt) (rOrd X.K gtI fun a b => decide (a > b)) := op_ord hu (fun a b => by simp) (fun _ _ => rfl) (fun _ _ _ _ _ _ => Ob.RcOp.gt_int _ _ _ _) fun h1 h2 h3 h4 h5 => Ob.RcOp.tuples_gt h1 h2 h3 h4 h5
theorem op_geA (hu : X.A.units < cLine) : OpR X (compareOp .GtE) (rOrd X.K geI fun a b => decide (a ≥ b)) := op_ord hu (fun a b => by simp) (fun _ _ => rfl) (fun _ _ _ _ _ _ => Ob.RcOp.ge_int _ _ _ _) fun h1 h2 h3 h4 h5 => Ob.RcOp.tuples_ge h1 h2 h3 h4 h5
/-! ### is None -/
def isN (neg : Bool) : D → D → M D := fun x y => match y with
  | .non => ret (.bl (match x with
    | .non => !neg
    | _ => neg))
  | _ => fail
theorem o_isN : Op2 K (fun x y H Q => y = .non ∧ Q (.bl (decide (x = .non))) H) (isN false) := by
  intro W σ mu H S x y v w Q hS rx ry hp
  cases ry <;> first | exact hp.elim | skip
  refine ⟨rfl, ?_⟩
  cases rx <;> exact hp mu H Ext.refl hS _ (.bl _)
theorem o_notN : Op2 K (fun x y H Q => y = .non ∧ Q (.bl (!decide (x = .non))) H) (isN true) := by
  intro W σ mu H S x y v w Q hS rx ry hp
  cases ry <;> first | exact hp.elim | skip
  refine ⟨rfl, ?_⟩
  cases rx <;> exact hp mu H Ext.refl hS _ (.bl _)
end
end Fa
namespace Fa
open PySem PySem.Spec PyProof.Rows L2
section
variable {X : Cx} {K : PySem.W.Frag}
/-! ### places -/
def ixD : D → D → M D
  | .tup ds, .int i => match atI ds i with
    | some d => ret d
    | none => fail
  | .rls ds, .int i => match atI ds i with
    | some d => ret d
    | none => fail
  | .loc n, .int i => fun S => match S[n]? with
    | some (.lst ds) => match atI ds i with
      | some d => .ok d S
      | none => .bad
    | _ => .bad
  | .str z, .int i => match atI z.cps.toList i with
    | some c => if z.length ≤ sizeLine then ret (.str ⟨#[c]⟩) else fail
    | none => fail
  | _, _ => fail
theorem Reps.atI {mu : List Addr} {H : Hp} {vs : List V} {ds : List D} {i : Int} {d : D} (h : Reps K mu H vs ds) (e : L2.atI ds i = some d) : ∃ v, L2.atI vs i = some v ∧ Rep K mu H v d := by
  unfold L2.atI at e ⊢
  rw [h.length]
  cases e1 : ixN ds.length i with
  | none => rw [e1] at e; cases e
  | some j => rw [e1] at e; exact h.get e
theorem o_ix : Op2 K (rIx K) ixD := by
  intro W σ mu H S x y v w Q hS rx ry hp
  cases rx with
  | tup hq hr =>
    cases ry <;> first | exact hp.elim | skip
    rename_i a vs ds i
    have hp' : Post K W σ mu H _ ((match atI ds i with
      | some d => ret d
      | none => fail) S) := hp
    cases e : atI ds i with
    | none => rw [e] at hp'; exact hp'.elim
    | some d =>
      rw [e] at hp'
      obtain ⟨u, e2, ru⟩ := hr.atI e
      exact .inr (.inl ⟨a, vs, i, u, rfl, rfl, hq, e2, hp' mu H Ext.refl hS u ru⟩)
  | rls hq hr =>
    cases ry <;> first | exact hp.elim | skip
    rename_i a vs ds i
    have hp' : Post K W σ mu H _ ((match atI ds i with
      | some d => ret d
      | none => fail) S) := hp
    cases e : atI ds i with
    | none => rw [e] at hp'; exact hp'.elim
    | some d =>
      rw [e] at hp'
      obtain ⟨u, e2, ru⟩ := hr.atI e
      exact .inl ⟨a, vs, i, u, rfl, rfl, hq.sqL, e2, hp' mu H Ext.refl hS u ru⟩
  | loc hn =>
    cases ry <;> first | exact hp.elim | skip
    rename_i a n i
    obtain ⟨o, ho, q⟩ := hS.obj hn
    have hp' : Post K W σ mu H _ (match S[n]? with
      | some (.lst ds) => match atI ds i with
        | some d => Res.ok d S
        | none => .bad
      | _ => .bad) := hp
    rw [ho] at hp'
    cases o with
    | lst ds =>
      obtain ⟨vs, h1, hr⟩ := q
      simp only at hp'
      cases e : atI ds i with
      | none => rw [e] at hp'; exact hp'.elim
      | some d =>
        rw [e] at hp'
        obtain ⟨u, e2, ru⟩ := hr.atI e
        exact .inl ⟨a, vs, i, u, rfl, rfl, .inl (.inl h1), e2, hp' mu H Ext.refl hS u ru⟩
    | dct _ => exact hp'.elim
    | ins _ _ => exact hp'.elim
  | str z =>
    cases ry <;> first | exact hp.elim | skip
    rename_i i
    have hp' : Post K W σ mu H _ ((match atI z.cps.toList i with
      | some c => if z.length ≤ sizeLine then ret (D.str ⟨#[c]⟩) else fail
      | none => fail) S) := hp
    cases e : atI z.cps.toList i with
    | none => rw [e] at hp'; exact hp'.elim
    | some c =>
      rw [e] at hp'
      simp only at hp'
      by_cases h : z.length ≤ sizeLine
      · rw [if_pos h] at hp'
        exact .inr (.inr ⟨z, i, c, rfl, rfl, h, e, hp' mu H Ext.refl hS _ (.str _)⟩)
      · rw [if_neg h] at hp'
        exact hp'.elim
  | _ => exact hp.elim
/-! o[i] = v -/
def setD : D → D → D → M Unit
  | .loc n, .int i, d => fun S => match S[n]? with
    | some (.lst ds) => match ixN ds.length i with
      | some j => .ok () (S.set n (.lst (ds.set j d)))
      | none => .bad
    | _ => .bad
  | _, _, _ => fail
def gSubD (mo mi : Env → M D) : Tg := fun d r => bnd (mo r) fun o => bnd (mi r) fun i => bnd (setD o i d) fun _ => ret r
theorem sg_sub {W : WX} {o i : Expr} {mo mi : Env → M D} {pos : Pos} (ho : SE X W o mo) (hi : SE X W i mi)
    (ha : ∀ v, assign (.Subscript o i pos) X.env v = (do
      let ov ← holding [v] (eval o X.env)
      let iv ← holding [v, ov] (eval i X.env)
      standAt pos
      holding [v, ov, iv] (setItem ov iv v)
      release [v, ov, iv] []) := by intro _; rfl) : SG X W (.Subscript o i pos) [] (gSubD mo mi) := ⟨fun p s σ H v u Q I rv q => (pg_sub ho hi set_list ha).run p s σ H v u Q I rv (by
  obtain ⟨r, mu, S, d, hS, he, hr, hp⟩ := q
  refine ⟨r, mu, S, hS, he, hp.bnd.imp fun x S1 mu1 H1 ex hS1 q1 ov rov => ?_⟩
  refine ⟨r, mu1, S1, hS1, he.mono ex, q1.bnd.imp fun y S2 mu2 H2 ex2 hS2 q2 iv riv => ?_⟩
  have rov2 := rov.mono ex2
  cases rov2 <;> first | exact q2.elim | skip
  cases riv <;> first | exact q2.elim | skip
  rename_i a n hn k
  obtain ⟨ob, hob, qb⟩ := hS2.obj hn
  have q3 : Post X.K W σ mu2 H2 _ (bnd (fun S => match S[n]? with
    | some (.lst ds) => match ixN ds.length k with
      | some j => Res.ok () (S.set n (.lst (ds.set j d)))
      | none => .bad
    | _ => .bad) (fun _ => ret r) S2) := q2
  unfold bnd at q3
  simp only [hob] at q3
  cases ob with
  | lst ds =>
    obtain ⟨vs, h1, hrs⟩ := qb
    simp only at q3
    cases e : ixN ds.length k with
    | none => rw [e] at q3; exact q3.elim
    | some j =>
      rw [e] at q3
      have ext : Ext mu2 H2 mu2 (upd H2 a (.lst (vs.set j v))) := ext_put h1 (fun xs z => by cases z) (fun o x z => by cases z)
      refine ⟨a, vs, k, j, rfl, rfl, h1, by rw [hrs.length]; exact e, ?_⟩
      exact q3 mu2 _ ext (hS2.put (u' := .lst vs) hn ext ⟨_, upd_same, (hrs.set ((hr.mono ex).mono ex2) j).mono ext⟩) σ ((((he.mono ex).mono ex2).mono ext)) rfl
  | dct _ => exact q3.elim
  | ins _ _ => exact q3.elim)⟩
/-! ### built-in functions -/
def absD : List D → M D
  | [.int i] => ret (.int (if i < 0 then -i else i))
  | _ => fail
def maxD : List D → M D
  | [.int i, .int j] => ret (.int (if j > i then j else i))
  | _ => fail
def minD : List D → M D
  | [.int i, .int j] => ret (.int (if j < i then j else i))
  | _ => fail
def intD : List D → M D
  | [.int i] => ret (.int i)
  | [.bl k] => ret (.int (if k then 1 else 0))
  | _ => fail
def lenOf (S : Sto) : D → Option Nat
  | .str z => if z.length ≤ sizeLine then some z.length else none
  | .tup ds => some ds.length
  | .rls ds => some ds.length
  | .loc n => match S[n]? with
    | some (.lst ds) => some ds.length
    | _ => none
  | _ => none
def lenD : List D → M D
  | [x] => fun S => match lenOf S x with
    | some n => .ok (.int n) S
    | none => .bad
  | _ => fail
theorem one_of {mu : List Addr} {H : Hp} {vs : List V} {x : D} (h : Reps K mu H vs [x]) : ∃ v, vs = [v] ∧ Rep K mu H v x := by
  cases h with
  | cons r t => cases t; exact ⟨_, rfl, r⟩
theorem two_of {mu : List Addr} {H : Hp} {vs : List V} {x y : D} (h : Reps K mu H vs [x, y]) : ∃ v w, vs = [v, w] ∧ Rep K mu H v x ∧ Rep K mu H w y := by
  cases h with
  | cons r t =>
    obtain ⟨w, rfl, rw⟩ := one_of t
    exact ⟨_, w, rfl, r, rw⟩
theorem o_abs : OpN K (fun xs H Q => ∃ i, xs = [.int i] ∧ Q (.int (if i < 0 then -i else i)) H) absD := by
  intro W σ mu H S xs vs Q hS hr hp
  unfold absD at hp
  split at hp
  · obtain ⟨v, rfl, rv⟩ := one_of hr
    cases rv
    exact ⟨_, rfl, hp mu H Ext.refl hS _ (.int _)⟩
  · exact hp.elim
theorem o_max : OpN K (fun xs H Q => ∃ i j, xs = [.int i, .int j] ∧ Q (.int (if j > i then j else i)) H) maxD := by
  intro W σ mu H S xs vs Q hS hr hp
  unfold maxD at hp
  split at hp
  · obtain ⟨v, w, rfl, rv, rw⟩ := two_of hr
    cases rv
    cases rw
    exact ⟨_, _, rfl, hp mu H Ext.refl hS _ (.int _)⟩
  · exact hp.elim
theorem o_min : OpN K (fun xs H Q => ∃ i j, xs = [.int i, .int j] ∧ Q (.int (if j < i then j else i)) H) minD := by
  intro W σ mu H S xs vs Q hS hr hp
  unfold minD at hp
  split at hp
  · obtain ⟨v, w, rfl, rv, rw⟩ := two_of hr
    cases rv
    cases rw
    exact ⟨_, _, rfl, hp mu H Ext.refl hS _ (.int _)⟩
  · exact hp.elim
theorem o_int : OpN K (fun xs H Q => (∃ i, xs = [.int i] ∧ Q (.int i) H) ∨ ∃ k, xs = [.bl k] ∧ Q (.int (if k then 1 else 0)) H) intD := by
  intro W σ mu H S xs vs Q hS hr hp
  unfold intD at hp
  split at hp
  · obtain ⟨v, rfl, rv⟩ := one_of hr
    cases rv
    exact .inl ⟨_, rfl, hp mu H Ext.refl hS _ (.int _)⟩
  · obtain ⟨v, rfl, rv⟩ := one_of hr
    cases rv
    exact .inr ⟨_, rfl, hp mu H Ext.refl hS _ (.int _)⟩
  · exact hp.elim
def rLenAll (K : PySem.W.Frag) : List V → Hp → VK → Prop := fun xs H Q => (∃ p ys, xs = [.ref p] ∧ (SqL K H p ys ∨ SqT K H p ys) ∧ Q (.int ys.length) H) ∨ ∃ z, xs = [.str z] ∧ z.length ≤ sizeLine ∧ Q (.int z.length) H
theorem call_lenAll : CallR X (.builtin "len") (rLenAll X.K) := call_len_seq.or call_len_str
theorem o_len : OpN K (rLenAll K) lenD := by
  intro W σ mu H S xs vs Q hS hr hp
  unfold lenD at hp
  split at hp
  · rename_i x
    obtain ⟨v, rfl, rv⟩ := one_of hr
    cases rv with
    | str z =>
      have hp' : Post K W σ mu H _ (match (if z.length ≤ sizeLine then some z.length else none) with
        | some n => Res.ok (D.int n) S
        | none => .bad) := hp
      by_cases h : z.length ≤ sizeLine
      · rw [if_pos h] at hp'
        exact .inr ⟨z, rfl, h, hp' mu H Ext.refl hS _ (.int _)⟩
      · rw [if_neg h] at hp'
        exact hp'.elim
    | tup hq hrs =>
      refine .inl ⟨_, _, rfl, .inr hq, ?_⟩
      rw [hrs.length]
      exact hp mu H Ext.refl hS _ (.int _)
    | rls hq hrs =>
      refine .inl ⟨_, _, rfl, .inl hq.sqL, ?_⟩
      rw [hrs.length]
      exact hp mu H Ext.refl hS _ (.int _)
    | loc hn =>
      obtain ⟨o, ho, q⟩ := hS.obj hn
      unfold lenOf at hp
      simp only [ho] at hp
      cases o with
      | lst ds =>
        obtain ⟨us, h1, hrs⟩ := q
        refine .inl ⟨_, _, rfl, .inl (.inl (.inl h1)), ?_⟩
        rw [hrs.length]
        exact hp mu H Ext.refl hS _ (.int _)
      | dct _ => exact hp.elim
      | ins _ _ => exact hp.elim
    | _ => exact hp.elim
  · exact hp.elim
def toB : List D → Option (List Bool)
  | [] => some []
  | .bl i :: ds => (toB ds).map (i :: ·)
  | _ :: _ => none
def allD : List D → M D
  | [.loc n] => fun S => match S[n]? with
    | some (.lst ds) => match toB ds with
      | some bs => .ok (.bl (bs.all id)) S
      | none => .bad
    | _ => .bad
  | _ => fail
def anyD : List D → M D
  | [.loc n] => fun S => match S[n]? with
    | some (.lst ds) => match toB ds with
      | some bs => .ok (.bl (bs.any id)) S
      | none => .bad
    | _ => .bad
  | _ => fail
theorem toB_reps {mu : List Addr} {H : Hp} : ∀ {ds : List D} {vs : List V} {ns : List Bool}, toB ds = some ns → Reps K mu H vs ds → vs = ns.map V.bl := by
  intro ds
  induction ds with
  | nil =>
    intro vs ns e r
    cases r
    cases e
    rfl
  | cons d ds ih =>
    intro vs ns e r
    cases r with
    | cons h t =>
      cases d with
      | bl i =>
        cases h
        obtain ⟨ps, e1, e2⟩ := map_some e
        subst e2
        rw [ih e1 t]
        rfl
      | _ => cases e
theorem o_all : OpN K (rAll K) allD := by
  intro W σ mu H S xs vs Q hS hr hp
  unfold allD at hp
  split at hp
  · obtain ⟨v, rfl, rv⟩ := one_of hr
    cases rv with
    | loc hn =>
      obtain ⟨o, ho, q⟩ := hS.obj hn
      simp only [ho] at hp
      cases o with
      | lst ds =>
        obtain ⟨us, h1, hrs⟩ := q
        simp only at hp
        cases e : toB ds with
        | none => rw [e] at hp; exact hp.elim
        | some bs =>
          rw [e] at hp
          exact ⟨_, bs, rfl, .inl (.inl (by rw [← toB_reps e hrs]; exact h1)), hp mu H Ext.refl hS _ (.bl _)⟩
      | dct _ => exact hp.elim
      | ins _ _ => exact hp.elim
  · exact hp.elim
theorem o_any : OpN K (rAny K) anyD := by
  intro W σ mu H S xs vs Q hS hr hp
  unfold anyD at hp
  split at hp
  · obtain ⟨v, rfl, rv⟩ := one_of hr
    cases rv with
    | loc hn =>
      obtain ⟨o, ho, q⟩ := hS.obj hn
      simp only [ho] at hp
      cases o with
      | lst ds =>
        obtain ⟨us, h1, hrs⟩ := q
        simp only at hp
        cases e : toB ds with
        | none => rw [e] at hp; exact hp.elim
        | some bs =>
          rw [e] at hp
          exact ⟨_, bs, rfl, .inl (.inl (by rw [← toB_reps e hrs]; exact h1)), hp mu H Ext.refl hS _ (.bl _)⟩
      | dct _ => exact hp.elim
      | ins _ _ => exact hp.elim
  · exact hp.elim
/-! repr -/
def shows (d : PyData) : Bool := d.showable && !d.hasDict && decide (d.depth ≤ 60) && decide (d.shown.length ≤ sizeLine)
def reprD : List D → M D
  | [x] => fun S => match snap S 40 x with
    | some d => if shows d = true then .ok (.str d.shown) S else .bad
    | none => .bad
  | _ => fail
def rRepr (K : PySem.W.Frag) : List V → Hp → VK → Prop := fun xs H Q => ∃ v d, xs = [v] ∧ Dp K H v d ∧ shows d = true ∧ Q (.str d.shown) H
theorem call_repr {k : Nat} (hr : Room k X.A) (hg : X.A.guards = some []) : CallR X (.builtin "repr") (rRepr X.K) := by
  intro pins s σ H xs us Q I r h
  obtain ⟨v, d, rfl, hd, hs, q⟩ := h
  obtain ⟨u, rfl, ru⟩ := vals1 r
  unfold shows at hs
  simp only [Bool.and_eq_true, decide_eq_true_eq, Bool.not_eq_true'] at hs
  obtain ⟨⟨⟨h1, h2⟩, h3⟩, h4⟩ := hs
  obtain ⟨as, rd⟩ := Dp.reads I d v u hd ru
  have hu : X.A.units + (d.depth + 1) < cLine := by
    have := hr.units
    omega
  have big : ∀ a, u = .ref a → wpAny (model X.prog X.w) X.A (call (.builtin "repr") [u]) (EP X pins σ Q) X.xe s := fun a e => by
    subst e
    refine repr_of_reads' rd h1 (fun z => by rw [h2] at z; cases z) hg hu (fun _ _ e => e) (fun h' tk t hk => ?_) h4
    exact ⟨.str d.shown, H, I.kept hk, ⟨_, rfl⟩, q⟩
  cases rd with
  | none => exact PySem.P.repr_of_none ⟨.str _, H, I.tok _, ⟨_, rfl⟩, by simpa [PyData.shown] using q⟩
  | bool b => exact PySem.P.repr_of_bool ⟨.str _, H, I.tok _, ⟨_, rfl⟩, by simpa [PyData.shown] using q⟩
  | int i t => exact PySem.P.repr_of_int (by simpa [PyData.showable] using h1) ⟨.str _, H, I.tok _, ⟨_, rfl⟩, by simpa [PyData.shown] using q⟩
  | str x t => exact PySem.P.repr_of_str (by exact ⟨.str _, H, I.tok _, ⟨_, rfl⟩, by simpa [PyData.shown] using q⟩) (by simpa [PyData.shown] using h4)
  | list _ _ _ _ => exact big _ rfl
  | tuple _ _ _ _ => exact big _ rfl
  | dict _ _ _ _ => exact big _ rfl
theorem o_repr : OpN K (rRepr K) reprD := by
  intro W σ mu H S xs vs Q hS hr hp
  unfold reprD at hp
  split at hp
  · obtain ⟨v, rfl, rv⟩ := one_of hr
    rename_i x
    cases e : snap S 40 x with
    | none => rw [e] at hp; exact hp.elim
    | some d =>
      simp only [e] at hp
      by_cases h : shows d = true
      · rw [if_pos h] at hp
        exact ⟨v, d, rfl, snap_dp hS _ _ _ _ e rv, h, hp mu H Ext.refl hS _ (.str _)⟩
      · rw [if_neg h] at hp
        exact hp.elim
  · exact hp.elim
/-! isinstance of built-in classes -/
inductive Ty where
  | non | bool | int | str | tuple | list | dict
  deriving DecidableEq
def Ty.name : Ty → String
  | .non => "NoneType" | .bool => "bool" | .int => "int" | .str => "str" | .tuple => "tuple" | .list => "list" | .dict => "dict"
def tyD (S : Sto) : D → Option Ty
  | .non => some .non
  | .bl _ => some .bool
  | .int _ => some .int
  | .str _ => some .str
  | .tup _ => some .tuple
  | .rls _ => some .list
  | .loc n => match S[n]? with
    | some (.lst _) => some .list
    | some (.dct _) => some .dict
    | _ => none
  | _ => none
def isa (t : Ty) (n : String) : Option Bool :=
  if n = "int" then some (t == .int || t == .bool) else if n = "bool" then some (t == .bool) else if n = "str" then some (t == .str) else if n = "tuple" then some (t == .tuple)
  else if n = "list" then some (t == .list) else if n = "dict" then some (t == .dict) else none
theorem isa_kit {t : Ty} {n : String} {b : Bool} (h : isa t n = some b) : kitB t.name n = some b := by
  unfold isa at h
  split at h
  · subst n; cases h; cases t <;> decide +kernel
  split at h
  · subst n; cases h; cases t <;> decide +kernel
  split at h
  · subst n; cases h; cases t <;> decide +kernel
  split at h
  · subst n; cases h; cases t <;> decide +kernel
  split at h
  · subst n; cases h; cases t <;> decide +kernel
  split at h
  · subst n; cases h; cases t <;> decide +kernel
  · cases h
def isiD : List D → M D
  | [x, .ty n] => fun S => match tyD S x with
    | some t => match isa t n with
      | some b => .ok (.bl b) S
      | none => .bad
    | none => .bad
  | _ => fail
theorem tyD_ty {mu : List Addr} {H : Hp} {S : Sto} {v : V} {x : D} {t : Ty} (hS : HRep K mu H S) (rv : Rep K mu H v x) (h : tyD S x = some t) : TyX K H v (.type t.name) := by
  cases rv with
  | non => cases h; exact .base .non
  | bl b => cases h; exact .base (.bl b)
  | int b => cases h; exact .base (.int b)
  | str b => cases h; exact .base (.str b)
  | ty _ => cases h
  | adr _ => cases h
  | tup hq hr =>
    cases h
    rcases hq with (h | ⟨o, h⟩) | ⟨o, its, n, h1, h2, _⟩
    · exact .base (.tup h)
    · exact .fTuple h
    · exact .kTuple h1 h2
  | rls hq hr =>
    cases h
    rcases hq with ⟨o, h⟩ | ⟨o, its, n, h1, h2, _⟩
    · exact .base (.frz h)
    · exact .kList h1 h2
  | loc hn =>
    obtain ⟨o, ho, q⟩ := hS.obj hn
    unfold tyD at h
    simp only [ho] at h
    cases o with
    | lst ds =>
      cases h
      obtain ⟨us, h1, _⟩ := q
      exact .base (.lst h1)
    | dct ds =>
      cases h
      obtain ⟨us, h1, _⟩ := q
      exact .base (.dK h1)
    | ins _ _ => cases h
theorem o_isi : OpN K (rIsi K) isiD := by
  intro W σ mu H S xs vs Q hS hr hp
  unfold isiD at hp
  split at hp
  · rename_i x n
    obtain ⟨v, w, rfl, rv, rw⟩ := two_of hr
    cases rw
    cases e : tyD S x with
    | none => rw [e] at hp; exact hp.elim
    | some t =>
      simp only [e] at hp
      cases e2 : isa t n with
      | none => rw [e2] at hp; exact hp.elim
      | some b =>
        rw [e2] at hp
        exact ⟨v, .ty n, _, _, b, rfl, .ty n, tyD_ty hS rv e, kit_ty (isa_kit e2), hp mu H Ext.refl hS _ (.bl _)⟩
  · exact hp.elim
/-! ### methods of lists -/
def lstAt (S : Sto) : D → Option (Nat × List D)
  | .loc n => match S[n]? with
    | some (.lst ds) => some (n, ds)
    | _ => none
  | _ => none
/-- o.m(..) of a list -/
def mLM (f : D → List D → M D) (o : Env → M D) (ms : Env → M (List D)) : Env → M D := fun r => bnd (o r) fun x S => if (lstAt S x).isSome = true then bnd (ms r) (f x) S else .bad
def OpM (K : PySem.W.Frag) (r : V → List V → Hp → VK → Prop) (f : D → List D → M D) : Prop := ∀ (W : WX) (σ : L2.St) mu H S x xs v vs (Q : VK), HRep K mu H S → Rep K mu H v x → Reps K mu H vs xs → Post K W σ mu H (fun d _ mu' H' => ∀ u, Rep K mu' H' u d → Q u H') (f x xs S) → r v vs H Q
theorem lstAt_of {mu : List Addr} {H : Hp} {S : Sto} {v : V} {x : D} {n : Nat} {ds : List D} (hS : HRep K mu H S) (rv : Rep K mu H v x) (h : lstAt S x = some (n, ds)) : ∃ a vs, v = .ref a ∧ x = .loc n ∧ mu[n]? = some a ∧ S[n]? = some (.lst ds) ∧ H a = some (.lst vs) ∧ Reps K mu H vs ds := by
  cases rv with
  | loc hn =>
    obtain ⟨o, ho, q⟩ := hS.obj hn
    unfold lstAt at h
    simp only [ho] at h
    cases o with
    | lst es =>
      cases h
      obtain ⟨us, h1, h2⟩ := q
      exact ⟨_, us, rfl, rfl, hn, ho, h1, h2⟩
    | dct _ => cases h
    | ins _ _ => cases h
  | _ => cases h
theorem se_lm {W : WX} {name : Str} {r : V → List V → Hp → VK → Prop} {f : D → List D → M D} {o e : Expr} {es : List Expr} {mo : Env → M D} {ms : Env → M (List D)} {pos apos : Pos} (hf : OpM X.K r f) (ho : SE X W o mo) (ha : SA X W (e :: es) ms)
    (base : ∀ {to : TE} {t : TA}, PE X o to → PA X (e :: es) t → PE X (.Call (.Attribute o name apos) (e :: es) [] pos) (tBM X.K "list" r to t)) : SE X W (.Call (.Attribute o name apos) (e :: es) [] pos) (mLM f mo ms) := peI (base ho ha) fun σ H Q q => by
  obtain ⟨r, mu, S, hS, he, hp⟩ := q
  refine ⟨r, mu, S, hS, he, hp.bnd.imp fun x S1 mu1 H1 ex hS1 q1 v rv => ?_⟩
  by_cases h : (lstAt S1 x).isSome = true
  · rw [if_pos h] at q1
    obtain ⟨⟨n, ds⟩, hl⟩ := Option.isSome_iff_exists.mp h
    obtain ⟨a, vs, rfl, rfl, hn, _, h1, _⟩ := lstAt_of hS1 rv hl
    refine ⟨.inl ⟨rfl, vs, .inl (.inl h1)⟩, r, mu1, S1, hS1, he.mono ex, q1.bnd.imp fun y S2 mu2 H2 ex2 hS2 q2 w rw => ?_⟩
    exact hf W σ mu2 H2 S2 _ _ _ _ Q hS2 (rv.mono ex2) rw q2
  · rw [if_neg h] at q1
    exact q1.elim
def appD : D → List D → M D := fun x ds S => match lstAt S x, ds with
  | some (n, xs), [d] => if xs.length < sizeLine then .ok .non (S.set n (.lst (xs ++ [d]))) else .bad
  | _, _ => .bad
theorem o_app : OpM K rAppend appD := by
  intro W σ mu H S x xs v vs Q hS rv rs hp
  unfold appD at hp
  cases e : lstAt S x with
  | none => rw [e] at hp; exact hp.elim
  | some p =>
    obtain ⟨n, ds⟩ := p
    rw [e] at hp
    match xs, hp, rs with
    | [], hp, _ => exact hp.elim
    | [d], hp, rs =>
      obtain ⟨w, rfl, rw⟩ := one_of rs
      obtain ⟨a, us, rfl, rfl, hn, hs, h1, h2⟩ := lstAt_of hS rv e
      simp only at hp
      by_cases h : ds.length < sizeLine
      · rw [if_pos h] at hp
        have ext : Ext mu H mu (upd H a (.lst (us ++ [w]))) := ext_put h1 (fun xs z => by cases z) (fun o x z => by cases z)
        exact ⟨a, us, w, rfl, rfl, h1, by rw [h2.length]; exact h, hp mu _ ext (hS.put (u' := .lst us) hn ext ⟨_, upd_same, (h2.append (.cons rw .nil)).mono ext⟩) _ .non⟩
      · rw [if_neg h] at hp
        exact hp.elim
    | _ :: _ :: _, hp, _ => exact hp.elim
def extD : D → List D → M D := fun x ds S => match lstAt S x, ds with
  | some (n, xs), [d] => match lstAt S d with
    | some (_, ys) => if xs.length + ys.length ≤ sizeLine then .ok .non (S.set n (.lst (xs ++ ys))) else .bad
    | none => .bad
  | _, _ => .bad
theorem o_ext : OpM K rExtend extD := by
  intro W σ mu H S x xs v vs Q hS rv rs hp
  unfold extD at hp
  cases e : lstAt S x with
  | none => rw [e] at hp; exact hp.elim
  | some p =>
    obtain ⟨n, ds⟩ := p
    rw [e] at hp
    match xs, hp, rs with
    | [], hp, _ => exact hp.elim
    | [d], hp, rs =>
      obtain ⟨w, rfl, rw⟩ := one_of rs
      obtain ⟨a, us, rfl, rfl, hn, hs, h1, h2⟩ := lstAt_of hS rv e
      simp only at hp
      cases e2 : lstAt S d with
      | none => rw [e2] at hp; exact hp.elim
      | some p2 =>
        obtain ⟨n2, ys⟩ := p2
        obtain ⟨b, ws, rfl, rfl, hn2, hs2, h3, h4⟩ := lstAt_of hS rw e2
        rw [e2] at hp
        simp only at hp
        by_cases h : ds.length + ys.length ≤ sizeLine
        · rw [if_pos h] at hp
          have ext : Ext mu H mu (upd H a (.lst (us ++ ws))) := ext_put h1 (fun xs z => by cases z) (fun o x z => by cases z)
          exact ⟨a, b, us, ws, rfl, rfl, h1, h3, by rw [h2.length, h4.length]; exact h, hp mu _ ext (hS.put (u' := .lst us) hn ext ⟨_, upd_same, (h2.append h4).mono ext⟩) _ .non⟩
        · rw [if_neg h] at hp
          exact hp.elim
    | _ :: _ :: _, hp, _ => exact hp.elim
end
end Fa
namespace Fa
open PySem PySem.Spec PyProof.Rows L2
/-! ### calls with keywords -/
def pick {α : Type} (ix : List Nat) (l : List α) : List α := ix.filterMap fun i => l[i]?
theorem pick_vals : ∀ (ix : List Nat) {vs : List V} {us : List Value}, Vals vs us → Vals (pick ix vs) (pick ix us)
  | [], _, _, _ => .nil
  | i :: ix, vs, us, h => by
    unfold pick
    cases e : vs[i]? with
    | none =>
      have e2 := h.none_of e
      rw [List.filterMap_cons, List.filterMap_cons, e, e2]
      exact pick_vals ix h
    | some v =>
      obtain ⟨u, e2, r⟩ := h.get e
      rw [List.filterMap_cons, List.filterMap_cons, e, e2]
      exact .cons r (pick_vals ix h)
theorem pick_reps {K : PySem.W.Frag} {mu : List Addr} {H : Hp} : ∀ (ix : List Nat) {vs : List V} {ds : List D}, Reps K mu H vs ds → Reps K mu H (pick ix vs) (pick ix ds)
  | [], _, _, _ => .nil
  | i :: ix, vs, ds, h => by
    unfold pick
    cases e : ds[i]? with
    | none =>
      have e2 : vs[i]? = none := by
        rw [List.getElem?_eq_none_iff, h.length]
        exact List.getElem?_eq_none_iff.mp e
      rw [List.filterMap_cons, List.filterMap_cons, e, e2]
      exact pick_reps ix h
    | some v =>
      obtain ⟨u, e2, r⟩ := h.get e
      rw [List.filterMap_cons, List.filterMap_cons, e, e2]
      exact .cons r (pick_reps ix h)
def KB (K : PySem.W.Frag) (fd : FuncData) (ps ks : List Str) (n : Nat) (ix : List Nat) : Prop := ∀ (s : Shared) (us ws : List Value), K.In s.heap → us.length = n → ws.length = ks.length → BindsTo s fd ⟨us, ks.zip ws⟩ (ps.zip (pick ix (us ++ ws)))
abbrev SK (X : Cx) (W : WX) (kws : List Keyword) (m : Env → M (List D)) : Prop := PK X kws (rdA X.K W m)
def kwF (n : Nat) (ix : List Nat) (F : List D → M D) : List D → M D := fun zs => if zs.length = n then F (pick ix zs) else fail
section
variable {X : Cx} {W : WX} {k : Nat} {f : Addr} {fd : FuncData} {ps ks : List Str} {F : List D → M D} {x : Str} {p pos kpos : Pos} {e : Expr} {es : List Expr} {kws : List Keyword} {ma : Env → M D} {ms mk : Env → M (List D)} {ix : List Nat} {nm : Option Str}
theorem pkI {e : List Keyword} {t t' : TA} (h : PK X e t) (i : ∀ σ H Q, t' σ H Q → t σ H Q) : PK X e t' := ⟨fun w p s σ H Q I q => h.run w p s σ H Q I (i σ H Q q)⟩
theorem sk_nil : SK X W [] mNil := pkI pk_nil fun σ H Q q => by
  obtain ⟨r, mu, S, hS, he, hp⟩ := q
  exact hp mu H Ext.refl hS [] .nil
theorem sk_cons (ha : SE X W e ma) (hr : SK X W kws mk) : SK X W (⟨nm, e, kpos⟩ :: kws) (mCons ma mk) := pkI (pk_cons ha hr) fun σ H Q q => by
  obtain ⟨r, mu, S, hS, he, hp⟩ := q
  refine ⟨r, mu, S, hS, he, hp.bnd.imp fun x S1 mu1 H1 ex hS1 q1 v rv => ?_⟩
  refine ⟨r, mu1, S1, hS1, he.mono ex, q1.bnd.imp fun y S2 mu2 H2 ex2 hS2 q2 w rw => ?_⟩
  exact q2 mu2 H2 Ext.refl hS2 _ (.cons (rv.mono ex2) rw)
theorem se_callK0 (G : FnG X.prog X.w X.K X.mg X.base k f fd ps F) (hr : Room k X.A) (hgd : X.A.guards = some []) (tk : Takes X W) (hg : Gl X x) (hm : X.mg x = some (.ref f)) (hk : PySem.W.keepIn X.K (.ref f) = true) (hb : KB X.K fd ps ks 0 ix) (ar : arity ps.length F)
    (hkw : SK X W kws mk) (hall : (backToKw pos (keywordEach kws X.env)).all (·.1.isSome) = true := by rfl) (hks : (backToKw pos (keywordEach kws X.env)).filterMap (·.1) = ks := by rfl) (hdb : (x == ("__debug__" : Str)) = false := by decide)
    (hpl : ((backTo pos (starEach [] X.env)).any (·.1) || (backToKw pos (keywordEach kws X.env)).any (·.1.isNone)) = false := by rfl) :
    SE X W (.Call (.Name x p) [] kws pos) (mA (kwF ks.length ix F) mk) := by
  constructor
  intro pins s σ H Q I q
  obtain ⟨r, mu, S, hS, hE, hp⟩ := q
  refine wpAny_Call_Name_kw (ld_glob I hg hm ?_ hdb)
  have q1 : rdA X.K W mk σ H fun vs H1 => vs.length = ks.length ∧ (pick ix vs).length = ps.length ∧ prom X.K F (pick ix vs) H1 Q (WE W σ) := by
    refine ⟨r, mu, S, hS, hE, hp.bnd.imp fun ds S1 m2 H2 ex h2 q2 vs rv => ?_⟩
    unfold kwF at q2
    by_cases hl : ds.length = ks.length
    · rw [if_pos hl] at q2
      have rp := pick_reps ix rv
      refine ⟨by rw [rv.length]; exact hl, ?_, prom_of h2 rp q2⟩
      rw [rp.length]
      refine Decidable.byContradiction fun z => ?_
      rw [ar _ S1 z] at q2
      exact q2
    · rw [if_neg hl] at q2
      exact q2.elim
  refine PySem.W.callWith_KW0 (h₀ := X.base) I.ok.mod.kin hk hall (thn (hkw.run pos pins s σ H _ I q1) fun ws s1 z => ?_) hpl
  obtain ⟨vs, H1, I1, rv, hl, hl2, hpr⟩ := z
  rw [hks]
  refine ⟨I1.kIn, runG (ar := ⟨[], ks.zip ws⟩) (us := pick ix ws) G hr hgd tk I1 (hb s1 [] ws I1.kIn rfl (by rw [← rv.length]; exact hl)) (pick_vals ix rv) hl2 hpr⟩
def kwF2 (n m : Nat) (ix : List Nat) (F : List D → M D) (ds zs : List D) : M D := if ds.length = n ∧ zs.length = m then F (pick ix (ds ++ zs)) else fail
def mA2 (f : List D → List D → M D) (a b : Env → M (List D)) : Env → M D := fun r => bnd (a r) fun x => bnd (b r) fun y => f x y
theorem se_callK {n : Nat} (G : FnG X.prog X.w X.K X.mg X.base k f fd ps F) (hr : Room k X.A) (hgd : X.A.guards = some []) (tk : Takes X W) (hg : Gl X x) (hm : X.mg x = some (.ref f)) (hk : PySem.W.keepIn X.K (.ref f) = true) (hb : KB X.K fd ps ks n ix) (ar : arity ps.length F)
    (ha : SA X W (e :: es) ms) (hkw : SK X W kws mk) (hall : (backToKw pos (keywordEach kws X.env)).all (·.1.isSome) = true := by rfl) (hks : (backToKw pos (keywordEach kws X.env)).filterMap (·.1) = ks := by rfl) (hdb : (x == ("__debug__" : Str)) = false := by decide)
    (he : starEach (e :: es) X.env = (false, eval e X.env) :: starEach es X.env := by rfl)
    (hpl : ((backTo pos (starEach (e :: es) X.env)).any (·.1) || (backToKw pos (keywordEach kws X.env)).any (·.1.isNone)) = false := by rfl) :
    SE X W (.Call (.Name x p) (e :: es) kws pos) (mA2 (kwF2 n ks.length ix F) ms mk) := by
  constructor
  intro pins s σ H Q I q
  obtain ⟨r, mu, S, hS, hE, hp⟩ := q
  refine wpAny_Call_Name_kw (ld_glob I hg hm ?_ hdb)
  have q1 : rdA X.K W ms σ H fun as H1 => rdA X.K W mk σ H1 fun vs H2 => as.length = n ∧ vs.length = ks.length ∧ (pick ix (as ++ vs)).length = ps.length ∧ prom X.K F (pick ix (as ++ vs)) H2 Q (WE W σ) := by
    refine ⟨r, mu, S, hS, hE, hp.bnd.imp fun ds S1 m2 H2 ex h2 q2 as ra => ?_⟩
    refine ⟨r, m2, S1, h2, hE.mono ex, q2.bnd.imp fun zs S2 m3 H3 ex3 h3 q3 vs rv => ?_⟩
    unfold kwF2 at q3
    by_cases hl : ds.length = n ∧ zs.length = ks.length
    · rw [if_pos hl] at q3
      have rp := pick_reps ix ((ra.mono ex3).append rv)
      refine ⟨by rw [ra.length]; exact hl.1, by rw [rv.length]; exact hl.2, ?_, prom_of h3 rp q3⟩
      rw [rp.length]
      refine Decidable.byContradiction fun z => ?_
      rw [ar _ S2 z] at q3
      exact q3
    · rw [if_neg hl] at q3
      exact q3.elim
  refine PySem.W.callWith_KW (h₀ := X.base) I.ok.mod.kin hk hall (thn (ha.run pos pins s σ H _ I q1) fun us s1 z => ?_) hpl he
  obtain ⟨as, H1, I1, ra, q2⟩ := z
  refine thn (hkw.run pos pins s1 σ H1 _ I1 q2) fun ws s2 z => ?_
  obtain ⟨vs, H2, I2, rv, hn, hl, hl2, hpr⟩ := z
  rw [hks]
  refine ⟨I2.kIn, runG (ar := ⟨us, ks.zip ws⟩) (us := pick ix (us ++ ws)) G hr hgd tk I2 (hb s2 us ws I2.kIn (by rw [← ra.length]; exact hn) (by rw [← rv.length]; exact hl)) (pick_vals ix (ra.append rv)) hl2 hpr⟩
end
end Fa
namespace Fa
open PySem PySem.Spec PyProof.Rows L2
/-! ### the functions run: one equation a step, each fully applied -/
def bK {α β : Type} (m : Res α) (f : α → M β) : Res β := match m with
  | .ok a S' => f a S'
  | .err x S' => .err x S'
  | .bad => .bad
theorem bK_ok {α β : Type} (a : α) (S : Sto) (f : α → M β) : bK (.ok a S) f = f a S := id rfl
theorem bK_err {α β : Type} (a : Exn) (S : Sto) (f : α → M β) : bK (.err a S) f = .err a S := id rfl
theorem bK_bad {α β : Type} (f : α → M β) : bK .bad f = .bad := id rfl
theorem bnd_ap {α β : Type} (m : M α) (f : α → M β) (S : Sto) : bnd m f S = bK (m S) f := id rfl
theorem ret_ap {α : Type} (a : α) (S : Sto) : ret a S = .ok a S := id rfl
theorem fail_ap {α : Type} (S : Sto) : (fail S : Res α) = .bad := id rfl
section
variable (r : Env) (S : Sto) (d x y : D) (ds xs : List D) (a b : Env → M D) (ms : Env → M (List D)) (c c' : Env → M Bool) (p q : Env → Sto → Out) (i : Nat) (g : Tg) (k : List D → Env → M Env)
def vK : Option (Option D) → M D
  | some (some d) => ret d
  | _ => fail
theorem mVar_ap : mVar i r S = vK r[i]? S := by
  unfold mVar
  cases r[i]? with
  | none => rfl
  | some o => cases o <;> rfl
theorem vK_some : vK (some (some d)) S = .ok d S := id rfl
theorem mC_ap : mC d r S = .ok d S := id rfl
theorem m1_ap (f : D → M D) : m1 f a r S = bK (a r S) f := id rfl
def k2 (f : D → D → M D) (b : Env → M D) (r : Env) (x : D) : M D := bnd (b r) (f x)
theorem m2_ap (f : D → D → M D) : m2 f a b r S = bK (a r S) (k2 f b r) := id rfl
theorem k2_ap (f : D → D → M D) : k2 f b r x S = bK (b r S) (f x) := id rfl
theorem mNil_ap : mNil r S = .ok [] S := id rfl
def kCons (b : Env → M (List D)) (r : Env) (x : D) : M (List D) := bnd (b r) fun xs => ret (x :: xs)
def kCon (x : D) (xs : List D) : M (List D) := ret (x :: xs)
theorem mCons_ap : mCons a ms r S = bK (a r S) (kCons ms r) := id rfl
theorem kCons_ap : kCons ms r x S = bK (ms r S) (kCon x) := id rfl
theorem kCon_ap : kCon x xs S = .ok (x :: xs) S := id rfl
theorem mA_ap (f : List D → M D) : mA f ms r S = bK (ms r S) f := id rfl
def kIf (a b : Env → M D) (r : Env) (k : Bool) : M D := if k = true then a r else b r
theorem mIf_ap : mIf c a b r S = bK (c r S) (kIf a b r) := id rfl
theorem kIf_t : kIf a b r true S = a r S := id rfl
theorem kIf_f : kIf a b r false S = b r S := id rfl
theorem tOf_ap : tOf a r S = bK (a r S) isBl := id rfl
theorem isBl_ap (t : Bool) : isBl (.bl t) S = .ok t S := id rfl
def kNt (t : Bool) : M Bool := ret (!t)
theorem tNt_ap : tNt c r S = bK (c r S) kNt := id rfl
theorem kNt_ap (t : Bool) : kNt t S = .ok (!t) S := id rfl
def kAn (b : Env → M Bool) (r : Env) (k : Bool) : M Bool := if k = true then b r else ret false
theorem tAn_ap : tAn c c' r S = bK (c r S) (kAn c' r) := id rfl
theorem kAn_t : kAn c r true S = c r S := id rfl
theorem kAn_f : kAn c r false S = .ok false S := id rfl
def kOr (b : Env → M Bool) (r : Env) (k : Bool) : M Bool := if k = true then ret true else b r
theorem tOr_ap : Fa.tOr c c' r S = bK (c r S) (kOr c' r) := id rfl
theorem kOr_t : kOr c r true S = .ok true S := id rfl
theorem kOr_f : kOr c r false S = c r S := id rfl
def kNot (x : D) : M D := bnd (isBl x) fun b => ret (.bl (!b))
theorem mNot_ap : mNot a r S = bK (a r S) kNot := id rfl
theorem kNot_ap (t : Bool) : kNot (.bl t) S = .ok (.bl (!t)) S := id rfl
def kAnd (b : Env → M D) (r : Env) (x : D) : M D := bnd (isBl x) fun k => if k = true then b r else ret (.bl false)
theorem mAnd_ap : mAnd a b r S = bK (a r S) (kAnd b r) := id rfl
theorem kAnd_t : kAnd b r (.bl true) S = b r S := id rfl
theorem kAnd_f : kAnd b r (.bl false) S = .ok (.bl false) S := id rfl
def kOrV (b : Env → M D) (r : Env) (x : D) : M D := bnd (isBl x) fun k => if k = true then ret (.bl true) else b r
theorem mOr_ap : mOr a b r S = bK (a r S) (kOrV b r) := id rfl
theorem kOrV_t : kOrV b r (.bl true) S = .ok (.bl true) S := id rfl
theorem kOrV_f : kOrV b r (.bl false) S = b r S := id rfl
/-! statements -/
def sK (o : Out) (b : Env → Sto → Out) : Out := match o with
  | .nx r' S' => b r' S'
  | o => o
theorem sSeq_ap : sSeq p q r S = sK (p r S) q := by
  unfold sSeq sK
  cases p r S <;> rfl
theorem sK_nx : sK (.nx r S) q = q r S := id rfl
theorem sK_rt : sK (.rt d S) q = .rt d S := id rfl
theorem sK_bk : sK (.bk r S) q = .bk r S := id rfl
theorem sK_ct : sK (.ct r S) q = .ct r S := id rfl
theorem sK_ex (z : Exn) : sK (.ex z r S) q = .ex z r S := id rfl
theorem sK_bad : sK .bad q = .bad := id rfl
def oK {α : Type} (m : Res α) (f : α → Env → Sto → Out) (r : Env) : Out := match m with
  | .ok a S' => f a r S'
  | .err x S' => .ex x r S'
  | .bad => .bad
theorem oK_ok {α : Type} (a : α) (f : α → Env → Sto → Out) : oK (.ok a S) f r = f a r S := id rfl
theorem oK_err {α : Type} (z : Exn) (f : α → Env → Sto → Out) : oK (.err z S) f r = .ex z r S := id rfl
theorem oK_bad {α : Type} (f : α → Env → Sto → Out) : oK .bad f r = .bad := id rfl
theorem bndO_ap {α : Type} (m : Env → M α) (f : α → Env → Sto → Out) : bndO m f r S = oK (m r S) f r := by
  unfold bndO oK
  cases m r S <;> rfl
def kNx (_ : D) (r : Env) (S : Sto) : Out := .nx r S
def kRt (d : D) (_ : Env) (S : Sto) : Out := .rt d S
theorem kNx_ap : kNx d r S = .nx r S := id rfl
theorem kRt_ap : kRt d r S = .rt d S := id rfl
theorem sEx_ap : sEx a r S = oK (a r S) kNx r := bndO_ap r S a _
theorem sRet_ap : sRet a r S = oK (a r S) kRt r := bndO_ap r S a _
theorem sRetN_ap : sRetN r S = .rt .non S := id rfl
theorem sNx_ap : sNx r S = .nx r S := id rfl
theorem sBad_ap : sBad r S = .bad := id rfl
def kIfS (p q : Env → Sto → Out) (k : Bool) (r : Env) (S : Sto) : Out := if k = true then p r S else q r S
theorem sIf_ap : sIf c p q r S = oK (c r S) (kIfS p q) r := bndO_ap r S c _
theorem kIfS_t : kIfS p q true r S = p r S := id rfl
theorem kIfS_f : kIfS p q false r S = q r S := id rfl
theorem gN_ap : gN i d r S = .ok (r.set i (some d)) S := id rfl
theorem gT_ap : gT k (.tup ds) r S = k ds r S := id rfl
theorem gTc_ap : gTc g k (d :: ds) r S = bK (g d r S) (k ds) := id rfl
theorem gT0_ap : gT0 [] r S = .ok r S := id rfl
def kAs (g : Tg) (d : D) (r : Env) (S : Sto) : Out := match g d r S with
  | .ok r' S' => .nx r' S'
  | .err x S' => .ex x r S'
  | .bad => .bad
def kAs2 (m : Res Env) (r : Env) : Out := match m with
  | .ok r' S' => .nx r' S'
  | .err x S' => .ex x r S'
  | .bad => .bad
theorem sAs_ap : sAs a g r S = oK (a r S) (kAs g) r := bndO_ap r S a _
theorem kAs_ap : kAs g d r S = kAs2 (g d r S) r := id rfl
theorem kAs2_ok (r' : Env) : kAs2 (.ok r' S) r = .nx r' S := id rfl
def kPar (i j : Nat) (ds : List D) (r : Env) (S : Sto) : Out := match ds with
  | [x, y] => .nx ((r.set i (some x)).set j (some y)) S
  | _ => .bad
theorem sPar_ap (j : Nat) : sPar i j ms r S = oK (ms r S) (kPar i j) r := bndO_ap r S ms _
theorem kPar_ap (j : Nat) : kPar i j [x, y] r S = .nx ((r.set i (some x)).set j (some y)) S := id rfl
def kSub1 (mi : Env → M D) (d : D) (r : Env) (o : D) : M Env := bnd (mi r) fun i => bnd (setD o i d) fun _ => ret r
def kSub2 (d : D) (r : Env) (o i : D) : M Env := bnd (setD o i d) fun _ => ret r
def kSub3 (r : Env) (_ : Unit) : M Env := ret r
theorem gSubD_ap : gSubD a b d r S = bK (a r S) (kSub1 b d r) := id rfl
theorem kSub1_ap : kSub1 b d r x S = bK (b r S) (kSub2 d r x) := id rfl
theorem kSub2_ap : kSub2 d r x y S = bK (setD x y d S) (kSub3 r) := id rfl
theorem kSub3_ap : kSub3 r () S = .ok r S := id rfl
def fK (o : Out) : Res D := match o with
  | .nx _ S' => .ok .non S'
  | .rt d S' => .ok d S'
  | .ex x _ S' => .err x S'
  | _ => .bad
theorem fnM_ap (n np : Nat) (h : ds.length = np) : fnM n np p ds S = fK (p (ds.map some ++ List.replicate (n - np) none) S) := by
  unfold fnM fK
  rw [if_pos h]
  all_goals (cases p (ds.map some ++ List.replicate (n - np) none) S <;> rfl)
theorem fK_nx : fK (.nx r S) = .ok .non S := id rfl
theorem fK_rt : fK (.rt d S) = .ok d S := id rfl
theorem fK_ex (z : Exn) : fK (.ex z r S) = .err z S := id rfl
/-! operations -/
theorem tupD_ap (h : ds.length ≤ sizeLine) : tupD ds S = .ok (.tup ds) S := by
  unfold tupD
  rw [if_pos h]
  rfl
theorem lstD_ap (h : ds.length ≤ sizeLine) : lstD ds S = .ok (.loc S.length) (S ++ [.lst ds]) := by
  unfold lstD
  rw [if_pos h]
variable (m n : Int)
theorem add_ii : addD (.int m) (.int n) S = .ok (.int (m + n)) S := id rfl
theorem add_tt (h : ds.length + xs.length ≤ sizeLine) : addD (.tup ds) (.tup xs) S = .ok (.tup (ds ++ xs)) S := by
  show (if ds.length + xs.length ≤ sizeLine then ret (D.tup (ds ++ xs)) else fail) S = _
  rw [if_pos h]
  rfl
theorem add_ss (u v : Str) (h : u.length + v.length ≤ sizeLine) : addD (.str u) (.str v) S = .ok (.str (u ++ v)) S := by
  show (if u.length + v.length ≤ sizeLine then ret (D.str (u ++ v)) else fail) S = _
  rw [if_pos h]
  rfl
theorem add_ll {i j : Nat} {ds xs : List D} (h1 : S[i]? = some (.lst ds)) (h2 : S[j]? = some (.lst xs)) (h : ds.length + xs.length ≤ sizeLine) : addD (.loc i) (.loc j) S = .ok (.loc S.length) (S ++ [.lst (ds ++ xs)]) := by
  unfold addD
  simp only [h1, h2]
  rw [if_pos h]
theorem sub_ii : subD (.int m) (.int n) S = .ok (.int (m - n)) S := id rfl
theorem mul_ii (h : mulC m n = true) : mulD (.int m) (.int n) S = .ok (.int (m * n)) S := by
  show (if mulC m n = true then ret (D.int (m * n)) else fail) S = _
  rw [if_pos h]
  rfl
theorem fdiv_ii (h : divC m n = true) : fdivD (.int m) (.int n) S = .ok (.int (m.fdiv n)) S := by
  show (if divC m n = true then ret (D.int (m.fdiv n)) else fail) S = _
  rw [if_pos h]
  rfl
theorem mod_ii (h : modC m n = true) : modD (.int m) (.int n) S = .ok (.int (m.fmod n)) S := by
  show (if modC m n = true then ret (D.int (m.fmod n)) else fail) S = _
  rw [if_pos h]
  rfl
theorem pow_ii (h : powC m n = true) : powD (.int m) (.int n) S = .ok (.int (m ^ n.toNat)) S := by
  show (if powC m n = true then ret (D.int (m ^ n.toNat)) else fail) S = _
  rw [if_pos h]
  rfl
theorem neg_i : negD (.int m) S = .ok (.int (-m)) S := id rfl
theorem lt_ii : ltD (.int m) (.int n) S = .ok (.bl (decide (m < n))) S := id rfl
theorem le_ii : leD (.int m) (.int n) S = .ok (.bl (decide (m ≤ n))) S := id rfl
theorem gt_ii : gtD (.int m) (.int n) S = .ok (.bl (decide (n < m))) S := id rfl
theorem ge_ii : geD (.int m) (.int n) S = .ok (.bl (decide (n ≤ m))) S := id rfl
theorem isN_n (neg : Bool) : isN neg .non .non S = .ok (.bl (!neg)) S := id rfl
theorem isN_i (neg : Bool) : isN neg (.int m) .non S = .ok (.bl neg) S := id rfl
theorem isN_t (neg : Bool) : isN neg (.tup ds) .non S = .ok (.bl neg) S := id rfl
theorem isN_s (neg : Bool) (z : Str) : isN neg (.str z) .non S = .ok (.bl neg) S := id rfl
theorem isN_b (neg : Bool) (z : Bool) : isN neg (.bl z) .non S = .ok (.bl neg) S := id rfl
theorem isN_l (neg : Bool) : isN neg (.loc i) .non S = .ok (.bl neg) S := id rfl
theorem abs_i : absD [.int m] S = .ok (.int (if m < 0 then -m else m)) S := id rfl
theorem max_ii : maxD [.int m, .int n] S = .ok (.int (if n > m then n else m)) S := id rfl
theorem min_ii : minD [.int m, .int n] S = .ok (.int (if n < m then n else m)) S := id rfl
theorem int_i : Fa.intD [.int m] S = .ok (.int m) S := id rfl
theorem int_b (t : Bool) : Fa.intD [.bl t] S = .ok (.int (if t then 1 else 0)) S := id rfl
theorem len_t : lenD [.tup ds] S = .ok (.int ds.length) S := id rfl
theorem len_r : lenD [.rls ds] S = .ok (.int ds.length) S := id rfl
theorem len_l {i : Nat} {ds : List D} (h : S[i]? = some (.lst ds)) : lenD [.loc i] S = .ok (.int ds.length) S := by
  unfold lenD lenOf
  simp only [h]
theorem ix_t {ds : List D} {n : Int} {d : D} (h : atI ds n = some d) : ixD (.tup ds) (.int n) S = .ok d S := by
  show (match atI ds n with
    | some d => ret d
    | none => fail) S = _
  rw [h]
  rfl
theorem ix_r {ds : List D} {n : Int} {d : D} (h : atI ds n = some d) : ixD (.rls ds) (.int n) S = .ok d S := by
  show (match atI ds n with
    | some d => ret d
    | none => fail) S = _
  rw [h]
  rfl
theorem ix_l {i : Nat} {ds : List D} {n : Int} {d : D} (h : S[i]? = some (.lst ds)) (h2 : atI ds n = some d) : ixD (.loc i) (.int n) S = .ok d S := by
  unfold ixD
  simp only [h, h2]
theorem set_l {i j : Nat} {ds : List D} {n : Int} (h : S[i]? = some (.lst ds)) (h2 : ixN ds.length n = some j) : setD (.loc i) (.int n) d S = .ok () (S.set i (.lst (ds.set j d))) := by
  unfold setD
  simp only [h, h2]
theorem isi_i (n : String) (t : Bool) (h : isa .int n = some t) : isiD [.int m, .ty n] S = .ok (.bl t) S := by
  unfold isiD tyD
  simp only [h]
theorem isi_b (n : String) (z t : Bool) (h : isa .bool n = some t) : isiD [.bl z, .ty n] S = .ok (.bl t) S := by
  unfold isiD tyD
  simp only [h]
theorem isi_s (n : String) (z : Str) (t : Bool) (h : isa .str n = some t) : isiD [.str z, .ty n] S = .ok (.bl t) S := by
  unfold isiD tyD
  simp only [h]
theorem isi_n (n : String) (t : Bool) (h : isa .non n = some t) : isiD [.non, .ty n] S = .ok (.bl t) S := by
  unfold isiD tyD
  simp only [h]
theorem isi_t (n : String) (t : Bool) (h : isa .tuple n = some t) : isiD [.tup ds, .ty n] S = .ok (.bl t) S := by
  unfold isiD tyD
  simp only [h]
theorem isi_r (n : String) (t : Bool) (h : isa .list n = some t) : isiD [.rls ds, .ty n] S = .ok (.bl t) S := by
  unfold isiD tyD
  simp only [h]
theorem isi_l {i : Nat} {ds : List D} (n : String) (t : Bool) (h1 : S[i]? = some (.lst ds)) (h : isa .list n = some t) : isiD [.loc i, .ty n] S = .ok (.bl t) S := by
  unfold isiD tyD
  simp only [h1, h]
end
theorem le_line {n : Nat} (h : n ≤ 1000) : n ≤ sizeLine := Nat.le_trans h (by rw [sizeLine_eq]; decide)
/-! places in the store -/
theorem at_end (S : Sto) (o : MO) : (S ++ [o])[S.length]? = some o := by simp
theorem at_end2 (S l : Sto) (o : MO) : (S ++ o :: l)[S.length]? = some o := by simp
theorem set_end (S : Sto) (o o' : MO) : (S ++ [o]).set S.length o' = S ++ [o'] := by simp
theorem set_end2 (S l : Sto) (o o' : MO) : (S ++ o :: l).set S.length o' = S ++ o' :: l := by simp
theorem at_old {S l : Sto} {i : Nat} {o : MO} (h : S[i]? = some o) : (S ++ l)[i]? = some o := by
  obtain ⟨hl, _⟩ := List.getElem?_eq_some_iff.mp h
  rw [List.getElem?_append_left hl]
  exact h
theorem eq_ii (neg : Bool) (m n : Int) (S : Sto) : eqB neg (.int m) (.int n) S = .ok (.bl (if neg then !decide (m = n) else decide (m = n))) S := id rfl
theorem eq_bb (neg : Bool) (m n : Bool) (S : Sto) : eqB neg (.bl m) (.bl n) S = .ok (.bl (if neg then !decide (m = n) else decide (m = n))) S := id rfl
theorem eq_ss (neg : Bool) (m n : Str) (S : Sto) : eqB neg (.str m) (.str n) S = .ok (.bl (if neg then !decide (m = n) else decide (m = n))) S := id rfl
theorem eq_tt (neg : Bool) (m n : List D) (S : Sto) : eqB neg (.tup m) (.tup n) S = eqS neg (.tup m) (.tup n) S := id rfl
/-! ### comprehensions and loops, by what is walked -/
theorem push_at {S : Sto} {n : Nat} {ds : List D} (d : D) (h : S[n]? = some (.lst ds)) (hz : ds.length < sizeLine) : push n d S = some (S.set n (.lst (ds ++ [d]))) := by
  unfold push
  simp only [h, hz, if_true]
/-- nothing but new things is made -/
theorem lc_pure {src : Src} (items : List D) (f : D → D) {g : Tg} {t : Env → M Bool} {e : Env → M D} {r : Env} {S0 : Sto} (hn : ∀ l i, nextD src i (S0 ++ l) = some items[i]?)
    (h : ∀ d ∈ items, ∀ l, ∃ r' l', g d r (S0 ++ l) = .ok r' (S0 ++ l) ∧ t r' (S0 ++ l) = .ok true (S0 ++ l) ∧ e r' (S0 ++ l) = .ok (f d) (S0 ++ l ++ l')) (hz : items.length ≤ sizeLine) :
    ∃ l, lcGo src g t e S0.length r items.length 0 (S0 ++ [.lst []]) = .ok (.loc S0.length) (S0 ++ .lst (items.map f) :: l) := by
  have go : ∀ (k i : Nat) (l : Sto), i + k = items.length → ∃ l', lcGo src g t e S0.length r k i (S0 ++ .lst ((items.take i).map f) :: l) = .ok (.loc S0.length) (S0 ++ .lst (items.map f) :: l') := by
    intro k
    induction k with
    | zero =>
      intro i l hi
      have e0 : items[i]? = none := List.getElem?_eq_none_iff.mpr (by omega)
      refine ⟨l, ?_⟩
      unfold lcGo
      rw [hn, e0, List.take_of_length_le (by omega)]
    | succ k ih =>
      intro i l hi
      have hlt : i < items.length := by omega
      have e0 : items[i]? = some items[i] := List.getElem?_eq_getElem hlt
      obtain ⟨r', l', h1, h2, h3⟩ := h items[i] (List.getElem_mem hlt) (.lst ((items.take i).map f) :: l)
      unfold lcGo
      rw [hn, e0]
      simp only [h1, h2, h3]
      have hp : (S0 ++ (.lst ((items.take i).map f) :: l) ++ l')[S0.length]? = some (.lst ((items.take i).map f)) := by simp
      rw [push_at _ hp (by rw [List.length_map, List.length_take]; omega)]
      have e1 : (S0 ++ (.lst ((items.take i).map f) :: l) ++ l').set S0.length (.lst ((items.take i).map f ++ [f items[i]])) = S0 ++ .lst ((items.take (i + 1)).map f) :: (l ++ l') := by
        rw [List.append_assoc, List.cons_append, set_end2, List.take_add_one, e0, List.map_append]
        rfl
      simp only [e1]
      exact ih (i + 1) (l ++ l') (by omega)
  simpa using go items.length 0 [] (by omega)
theorem mLc_pure {m : Env → M Src} {src : Src} (items : List D) (f : D → D) {g : Tg} {t : Env → M Bool} {e : Env → M D} {vs : List Nat} {r : Env} {S S0 : Sto} (hm : m r S = .ok src S0) (ht : turns src S0 = items.length) (hn : ∀ l i, nextD src i (S0 ++ l) = some items[i]?)
    (h : ∀ d ∈ items, ∀ l, ∃ r' l', g d (wipeE r vs) (S0 ++ l) = .ok r' (S0 ++ l) ∧ t r' (S0 ++ l) = .ok true (S0 ++ l) ∧ e r' (S0 ++ l) = .ok (f d) (S0 ++ l ++ l')) (hz : items.length ≤ sizeLine) :
    ∃ l, mLc m g t e vs r S = .ok (.loc S0.length) (S0 ++ .lst (items.map f) :: l) := by
  unfold mLc
  rw [bnd_ap, hm, bK_ok, ht]
  exact lc_pure items f hn h hz
/-- a comprehension whose elements draw: all are d0 -/
theorem lc_draw {src : Src} (k : Nat) (d0 : D) (it : Nat → D) {g : Tg} {t : Env → M Bool} {e : Env → M D} {r : Env} {n : Nat} (I : Nat → Sto → Prop) (hn : ∀ i S, I i S → nextD src i S = some (if i < k then some (it i) else none))
    (h : ∀ i S, i < k → I i S → ∃ r' S', g (it i) r S = .ok r' S ∧ t r' S = .ok true S ∧ e r' S = .ok d0 S' ∧ S'[n]? = S[n]? ∧ I (i + 1) S') (hI : ∀ i S o, I i S → I i (S.set n o)) (hz : k ≤ sizeLine) {S : Sto} (h0 : I 0 S) (hS : S[n]? = some (.lst [])) :
    ∃ S', lcGo src g t e n r k 0 S = .ok (.loc n) S' ∧ S'[n]? = some (.lst (List.replicate k d0)) ∧ I k S' := by
  have go : ∀ (j i : Nat) (S : Sto), i + j = k → I i S → S[n]? = some (.lst (List.replicate i d0)) → ∃ S', lcGo src g t e n r j i S = .ok (.loc n) S' ∧ S'[n]? = some (.lst (List.replicate k d0)) ∧ I k S' := by
    intro j
    induction j with
    | zero =>
      intro i S hi hI0 hS
      have : i = k := by omega
      subst this
      refine ⟨S, ?_, hS, hI0⟩
      unfold lcGo
      rw [hn i S hI0, if_neg (Nat.lt_irrefl _)]
    | succ j ih =>
      intro i S hi hI0 hS
      have hlt : i < k := by omega
      obtain ⟨r', S', h1, h2, h3, h4, h5⟩ := h i S hlt hI0
      have hp : S'[n]? = some (.lst (List.replicate i d0)) := h4.trans hS
      unfold lcGo
      rw [hn i S hI0, if_pos hlt]
      simp only [h1, h2, h3]
      rw [push_at _ hp (by rw [List.length_replicate]; omega)]
      refine ih (i + 1) _ (by omega) (hI _ _ _ h5) ?_
      rw [List.getElem?_set_self (List.getElem?_eq_some_iff.mp hp).1, List.replicate_succ']
  exact go k 0 S (by omega) h0 hS
/-- a for, by an invariant; each turn ends by going on -/
theorem for_inv {src : Src} (k : Nat) (it : Nat → D) {g : Tg} {b : Env → Sto → Out} (I : Nat → Env → Sto → Prop) (hn : ∀ i r S, I i r S → nextD src i S = some (if i < k then some (it i) else none))
    (h : ∀ i r S, i < k → I i r S → ∃ r1 S1 r2 S2, g (it i) r S = .ok r1 S1 ∧ (b r1 S1 = .nx r2 S2 ∨ b r1 S1 = .ct r2 S2) ∧ I (i + 1) r2 S2) {r : Env} {S : Sto} (h0 : I 0 r S) :
    ∃ r' S', forGo src g b k 0 r S = .nx r' S' ∧ I k r' S' := by
  have go : ∀ (j i : Nat) (r : Env) (S : Sto), i + j = k → I i r S → ∃ r' S', forGo src g b j i r S = .nx r' S' ∧ I k r' S' := by
    intro j
    induction j with
    | zero =>
      intro i r S hi hI
      have : i = k := by omega
      subst this
      refine ⟨r, S, ?_, hI⟩
      unfold forGo
      rw [hn i r S hI, if_neg (Nat.lt_irrefl _)]
    | succ j ih =>
      intro i r S hi hI
      have hlt : i < k := by omega
      obtain ⟨r1, S1, r2, S2, h1, h2, h3⟩ := h i r S hlt hI
      unfold forGo
      rw [hn i r S hI, if_pos hlt]
      simp only [h1]
      rcases h2 with h2 | h2
      · simp only [h2]
        exact ih (i + 1) r2 S2 (by omega) h3
      · simp only [h2]
        exact ih (i + 1) r2 S2 (by omega) h3
  exact go k 0 r S (by omega) h0
theorem sFor_inv {m : Env → M Src} {src : Src} (k : Nat) (it : Nat → D) {g : Tg} {b : Env → Sto → Out} (I : Nat → Env → Sto → Prop) {r : Env} {S S0 : Sto} (hm : m r S = .ok src S0) (ht : turns src S0 = k) (hn : ∀ i r S, I i r S → nextD src i S = some (if i < k then some (it i) else none))
    (h : ∀ i r S, i < k → I i r S → ∃ r1 S1 r2 S2, g (it i) r S = .ok r1 S1 ∧ (b r1 S1 = .nx r2 S2 ∨ b r1 S1 = .ct r2 S2) ∧ I (i + 1) r2 S2) (h0 : I 0 r S0) :
    ∃ r' S', sFor m g b r S = .nx r' S' ∧ I k r' S' := by
  unfold sFor
  rw [bndO_ap, hm, oK_ok, ht]
  exact for_inv k it I hn h h0
theorem next_rng (lo : Int) (k i : Nat) (S : Sto) : nextD (.rng lo k) i S = some (if i < k then some (.int (lo + i)) else none) := id rfl
theorem toB_rep (k : Nat) (b : Bool) : toB (List.replicate k (.bl b)) = some (List.replicate k b) := by
  induction k with
  | zero => rfl
  | succ k ih =>
    rw [List.replicate_succ, List.replicate_succ]
    unfold toB
    rw [ih]
    rfl
theorem all_rep {n k : Nat} {S : Sto} (h : S[n]? = some (.lst (List.replicate k (.bl true)))) : allD [.loc n] S = .ok (.bl true) S := by
  unfold allD
  simp only [h, toB_rep]
  have : (List.replicate k true).all id = true := by
    rw [List.all_eq_true]
    intro b hb
    exact (List.mem_replicate.mp hb).2
  rw [this]
theorem toB_map {α : Type} (f : α → Bool) : ∀ xs : List α, toB (xs.map fun x => .bl (f x)) = some (xs.map f)
  | [] => rfl
  | x :: xs => by
    show (toB (xs.map fun x => .bl (f x))).map (f x :: ·) = _
    rw [toB_map f xs]
    rfl
theorem all_map {α : Type} {n : Nat} {S : Sto} (f : α → Bool) (xs : List α) (h : S[n]? = some (.lst (xs.map fun x => .bl (f x)))) : allD [.loc n] S = .ok (.bl (xs.all f)) S := by
  unfold allD
  simp only [h, toB_map, List.all_map]
  rfl
/-! lists grown, ranges -/
def kLM (f : D → List D → M D) (ms : Env → M (List D)) (r : Env) (x : D) : M D := fun S => if (lstAt S x).isSome = true then bnd (ms r) (f x) S else .bad
theorem mLM_ap (f : D → List D → M D) (o : Env → M D) (ms : Env → M (List D)) (r : Env) (S : Sto) : mLM f o ms r S = bK (o r S) (kLM f ms r) := id rfl
theorem lstAt_l {S : Sto} {n : Nat} {ds : List D} (h : S[n]? = some (.lst ds)) : lstAt S (.loc n) = some (n, ds) := by
  unfold lstAt
  simp only [h]
theorem kLM_l {f : D → List D → M D} {ms : Env → M (List D)} {r : Env} {S : Sto} {n : Nat} {ds : List D} (h : S[n]? = some (.lst ds)) : kLM f ms r (.loc n) S = bK (ms r S) (f (.loc n)) := by
  unfold kLM
  rw [lstAt_l h]
  rfl
theorem app_l {S : Sto} {n : Nat} {ds : List D} (d : D) (h : S[n]? = some (.lst ds)) (hz : ds.length < sizeLine) : appD (.loc n) [d] S = .ok .non (S.set n (.lst (ds ++ [d]))) := by
  unfold appD
  rw [lstAt_l h]
  simp only [hz, if_true]
theorem ext_l {S : Sto} {n m : Nat} {ds es : List D} (h : S[n]? = some (.lst ds)) (h2 : S[m]? = some (.lst es)) (hz : ds.length + es.length ≤ sizeLine) : extD (.loc n) [.loc m] S = .ok .non (S.set n (.lst (ds ++ es))) := by
  unfold extD
  rw [lstAt_l h]
  simp only [lstAt_l h2, hz, if_true]
theorem mRng1_ap (ms : Env → M (List D)) (r : Env) (S : Sto) : mRng1 ms r S = bK (ms r S) rngOf1 := id rfl
theorem mRng2_ap (ms : Env → M (List D)) (r : Env) (S : Sto) : mRng2 ms r S = bK (ms r S) rngOf2 := id rfl
theorem mSrc_ap (m : Env → M D) (r : Env) (S : Sto) : mSrc m r S = bK (m r S) srcOf := id rfl
theorem rngOk_i {j : Int} (h1 : -4611686018427387904 ≤ j) (h2 : j < 4611686018427387904) : rngOk j = true := by
  unfold rngOk
  rw [decide_eq_true (show -(2 ^ 62) ≤ j by omega), decide_eq_true (show j < 2 ^ 62 by omega)]
  rfl
theorem rng1_i {j : Int} (h1 : -4611686018427387904 ≤ j) (h2 : j < 4611686018427387904) (S : Sto) : rngOf1 [.int j] S = .ok (.rng 0 j.toNat) S := by
  show (if rngOk j = true then ret (Src.rng 0 j.toNat) else fail) S = _
  rw [if_pos (rngOk_i h1 h2)]
  rfl
theorem rng2_i {i j : Int} (h3 : -4611686018427387904 ≤ i) (h4 : i < 4611686018427387904) (h1 : -4611686018427387904 ≤ j) (h2 : j < 4611686018427387904) (S : Sto) : rngOf2 [.int i, .int j] S = .ok (.rng i (j - i).toNat) S := by
  show (if (rngOk i && rngOk j) = true then ret (Src.rng i (j - i).toNat) else fail) S = _
  rw [rngOk_i h1 h2, rngOk_i h3 h4]
  rfl
theorem src_t (ds : List D) (S : Sto) : srcOf (.tup ds) S = .ok (.items ds) S := id rfl
theorem src_r (ds : List D) (S : Sto) : srcOf (.rls ds) S = .ok (.items ds) S := id rfl
theorem src_l {S : Sto} {n : Nat} {ds : List D} (h : S[n]? = some (.lst ds)) : srcOf (.loc n) S = .ok (.lst n) S := by
  unfold srcOf
  simp only [h]
def rngItems (lo : Int) (k : Nat) : List D := (List.range k).map fun (j : Nat) => D.int (lo + (j : Int))
theorem rngItems_len (lo : Int) (k : Nat) : (rngItems lo k).length = k := by simp [rngItems]
theorem next_items (lo : Int) (k i : Nat) (S : Sto) : nextD (.rng lo k) i S = some (rngItems lo k)[i]? := by
  rw [next_rng]
  unfold rngItems
  rw [List.getElem?_map]
  by_cases h : i < k
  · rw [if_pos h, List.getElem?_eq_getElem (by simpa using h), List.getElem_range]
    rfl
  · rw [if_neg h, List.getElem?_eq_none_iff.mpr (by rw [List.length_range]; omega)]
    rfl
theorem next_lst {S : Sto} {n i : Nat} {ds : List D} (h : S[n]? = some (.lst ds)) : nextD (.lst n) i S = some ds[i]? := by
  unfold nextD
  simp only [h]
theorem turns_lst {S : Sto} {n : Nat} {ds : List D} (h : S[n]? = some (.lst ds)) : turns (.lst n) S = ds.length := by
  unfold turns
  simp only [h]
end Fa
namespace Lw
open PySem PySem.Spec PyProof.Rows L2 Fa
/-! FSPLIT -/
def F_is_count : List D → M D := fnM 1 1
    (sRet (mAnd (mA isiD (mCons (mVar 0) (mCons (mC (.ty "int")) mNil))) (mAnd (mNot (mA isiD (mCons (mVar 0) (mCons (mC (.ty "bool")) mNil)))) (m2 geD (mVar 0) (mC (.int 0))))))
def F_later_of : List D → M D := fnM 4 2
    (sSeq (sIf (tOf (m2 (isN false) (mVar 0) (mC .non))) (sRet (mC .non)) sNx)
    (sSeq (sAs (mVar 0) (gT (gTc (gN 2) (gTc (gN 3) gT0))))
    (sSeq (sIf (tOf (m2 gtD (mVar 1) (mC (.int 0)))) (sRet (mA tupD (mCons (m2 addD (mVar 2) (mVar 1)) (mCons (mC (.int 0)) mNil)))) sNx)
    (sRet (mA tupD (mCons (mVar 2) (mCons (mIf (tOf (m2 (isN false) (mVar 3) (mC .non))) (mC .non) (m2 addD (mVar 3) (mC (.int 1)))) mNil)))))))
def F_l_pot : List D → M D := fnM 4 2
    (sSeq (sAs (mIf (tOf (m2 ltD (mVar 1) (mA lenD (mCons (mVar 0) mNil)))) (m2 ixD (mVar 0) (mVar 1)) (m2 addD (m2 mulD (mC (.int 37)) (mVar 1)) (mC (.int 11)))) (gN 2))
    (sSeq (sAs (m2 mulD (m2 modD (mA intD (mCons (mA absD (mCons (mVar 2) mNil)) mNil)) (m2 powD (m2 powD (mC (.int 10)) (mC (.int 60))) (mC (.int 5)))) (mA intD (mCons (m2 geD (mA absD (mCons (mVar 2) mNil)) (m2 powD (mC (.int 10)) (mC (.int 18)))) mNil))) (gN 3))
    (sRet (mA lstD (mCons (mVar 3) (mCons (m2 modD (mA intD (mCons (m2 addD (m2 addD (m2 mulD (m2 modD (mA intD (mCons (mVar 2) mNil)) (mC (.int 2305843009213693951))) (mC (.int 70441))) (m2 mulD (m2 mulD (mC (.int 6337)) (mVar 1)) (mVar 1))) (mC (.int 71))) mNil)) (mC (.int 2305843009213693921))) (mCons (mC (.int 0)) mNil)))))))
def F_l_take : List D → M D := fnM 5 2
    (sSeq (sIf (tOf (m2 gtD (m2 ixD (mVar 0) (mC (.int 0))) (mC (.int 0)))) (sSeq (sAs (m2 modD (mA intD (mCons (m2 ixD (mVar 0) (mC (.int 0))) mNil)) (mVar 1)) (gN 2))
    (sSeq (sAs (m2 fdivD (m2 ixD (mVar 0) (mC (.int 0))) (mVar 1)) (gSubD (mVar 0) (mC (.int 0))))
    (sRet (mVar 2)))) sNx)
    (sSeq (sAs (m2 addD (m2 ixD (mVar 0) (mC (.int 2))) (mC (.int 1))) (gSubD (mVar 0) (mC (.int 2))))
    (sSeq (sAs (m2 ixD (mA lstD (mCons (mC (.int 2147483647)) (mCons (mC (.int 2147483629)) (mCons (mC (.int 2147483587)) (mCons (mC (.int 2147483579)) (mCons (mC (.int 2147483563)) mNil)))))) (m2 modD (mA intD (mCons (m2 ixD (mVar 0) (mC (.int 2))) mNil)) (mC (.int 5)))) (gN 3))
    (sSeq (sAs (m2 modD (mA intD (mCons (m2 powD (mA intD (mCons (m2 addD (m2 addD (m2 ixD (mVar 0) (mC (.int 1))) (m2 mulD (m2 mulD (mC (.int 99907)) (m2 ixD (mVar 0) (mC (.int 2)))) (m2 ixD (mVar 0) (mC (.int 2))))) (mC (.int 53))) mNil)) (mC (.int 3))) mNil)) (mVar 3)) (gN 4))
    (sSeq (sAs (m2 modD (mA intD (mCons (m2 mulD (mVar 4) (m2 addD (m2 modD (mA intD (mCons (mVar 4) mNil)) (mC (.int 10007))) (m2 mulD (mC (.int 89)) (m2 ixD (mVar 0) (mC (.int 2)))))) mNil)) (mC (.int 2305843009213693907))) (gN 4))
    (sRet (m2 modD (mA intD (mCons (m2 fdivD (mVar 4) (mC (.int 103))) mNil)) (mVar 1))))))))
def F_l_later : List D → M D := fnM 2 2
    (sRet (mIf (tOf (m2 gtD (mVar 1) (mC (.int 0)))) (mA tupD (mCons (m2 addD (m2 ixD (mVar 0) (mC (.int 0))) (mVar 1)) (mCons (mC (.int 0)) mNil))) (mA tupD (mCons (m2 ixD (mVar 0) (mC (.int 0))) (mCons (m2 addD (m2 ixD (mVar 0) (mC (.int 1))) (mC (.int 1))) mNil)))))
def F_l_ahead : List D → M D := fnM 5 2
    (sSeq (sAs (mVar 0) (gT (gTc (gN 2) (gTc (gN 3) gT0))))
    (sSeq (sIf (tOf (m2 (eqB false) (mVar 1) (mC (.int 0)))) (sRet (mA tupD (mCons (mVar 2) (mCons (mA maxD (mCons (mC (.int 0)) (mCons (m2 subD (mVar 3) (mC (.int 1))) mNil))) mNil)))) sNx)
    (sSeq (sAs (mIf (tOf (m2 (eqB false) (mVar 3) (mC (.int 0)))) (m2 subD (mVar 2) (mVar 1)) (m2 addD (m2 subD (mVar 2) (mVar 1)) (mC (.int 1)))) (gN 4))
    (sRet (mA tupD (mCons (mA maxD (mCons (mC (.int 0)) (mCons (mVar 4) mNil))) (mCons (mC (.int 0)) mNil)))))))
def F_l_near : List D → M D := fnM 6 1
    (sSeq (sAs (mVar 0) (gT (gTc (gN 1) (gTc (gN 2) gT0))))
    (sSeq (sAs (mA lstD mNil) (gN 3))
    (sSeq (sFor (mRng2 (mCons (mA maxD (mCons (mC (.int 0)) (mCons (m2 subD (mVar 1) (mC (.int 2))) mNil))) (mCons (m2 addD (mVar 1) (mC (.int 2))) mNil))) (gN 4) (sEx (mLM extD (mVar 3) (mCons (mLc (mRng1 (mCons (m2 addD (mVar 2) (mC (.int 3))) mNil)) (gN 5) tT (mA tupD (mCons (mVar 4) (mCons (mVar 5) mNil))) [5]) mNil))))
    (sRet (mVar 3)))))
def F_is_stamp : List D → M D := fnM 2 1
    (sRet (mAnd (mA isiD (mCons (mVar 0) (mCons (mC (.ty "tuple")) mNil))) (mAnd (m2 (eqB false) (mA lenD (mCons (mVar 0) mNil)) (mC (.int 2))) (mA allD (mCons (mLc (mSrc (mVar 0)) (gN 1) tT (mA F_is_count (mCons (mVar 1) mNil)) [1]) mNil)))))
def F_l_of : List D → M D := fnM 2 2
    (sRet (m2 ixD (mVar 1) (mA F_l_take (mCons (mVar 0) (mCons (mA lenD (mCons (mVar 1) mNil)) mNil)))))
def F_check_both : List D → M D := fnM 2 2
    (sSeq (sIf (tNt (tOf (mA F_is_stamp (mCons (mVar 0) mNil)))) sBad sNx)
    (sIf (tNt (tOf (mA F_is_count (mCons (mVar 1) mNil)))) sBad sNx))
def F_l_moment : List D → M D := fnM 1 1
    (sRet (mA tupD (mCons (mA F_l_take (mCons (mVar 0) (mCons (mA F_l_of (mCons (mVar 0) (mCons (mA lstD (mCons (mC (.int 2)) (mCons (mC (.int 5)) (mCons (mC (.int 40)) (mCons (m2 powD (mC (.int 10)) (mC (.int 6))) mNil))))) mNil))) mNil))) (mCons (mA F_l_of (mCons (mVar 0) (mCons (mA lstD (mCons (mC (.int 0)) (mCons (mC (.int 0)) (mCons (mC (.int 1)) (mCons (mC (.int 2)) (mCons (mA F_l_take (mCons (mVar 0) (mCons (mC (.int 30)) mNil))) mNil)))))) mNil))) mNil))))
def F_later : List D → M D := fnM 2 2
    (sSeq (sEx (mA F_check_both (mCons (mVar 0) (mCons (mVar 1) mNil))))
    (sRet (mA F_later_of (mCons (mVar 0) (mCons (mVar 1) mNil)))))
def F_ahead_of : List D → M D := fnM 4 2
    (sSeq (sEx (mA F_check_both (mCons (mVar 0) (mCons (mVar 1) mNil))))
    (sSeq (sAs (mVar 0) (gT (gTc (gN 2) (gTc (gN 3) gT0))))
    (sSeq (sIf (tOf (m2 (eqB false) (mVar 1) (mC (.int 0)))) (sRet (mA tupD (mCons (mVar 2) (mCons (mA maxD (mCons (mC (.int 0)) (mCons (m2 subD (mVar 3) (mC (.int 1))) mNil))) mNil)))) sNx)
    (sRet (mA tupD (mCons (mA maxD (mCons (mC (.int 0)) (mCons (m2 addD (m2 subD (mVar 2) (mVar 1)) (mA intD (mCons (m2 gtD (mVar 3) (mC (.int 0))) mNil))) mNil))) (mCons (mC (.int 0)) mNil)))))))
def F_l_beside : List D → M D := fnM 5 2
    (sSeq (sAs (mVar 1) (gT (gTc (gN 2) (gTc (gN 3) gT0))))
    (sSeq (sAs (mA lstD (mCons (mVar 1) (mCons (mA tupD (mCons (mVar 2) (mCons (m2 addD (mVar 3) (mC (.int 1))) mNil))) (mCons (mA tupD (mCons (m2 addD (mVar 2) (mC (.int 1))) (mCons (mC (.int 0)) mNil))) (mCons (mA tupD (mCons (m2 addD (mVar 2) (mC (.int 1))) (mCons (mVar 3) mNil))) (mCons (mA tupD (mCons (mVar 2) (mCons (mC (.int 0)) mNil))) (mCons (mA tupD (mCons (mA maxD (mCons (mC (.int 0)) (mCons (m2 subD (mVar 2) (mC (.int 1))) mNil))) (mCons (m2 addD (mVar 3) (mC (.int 2))) mNil))) mNil))))))) (gN 4))
    (sRet (mA F_l_of (mCons (mVar 0) (mCons (m2 addD (mVar 4) (mA lstD (mCons (mA F_l_moment (mCons (mVar 0) mNil)) mNil))) mNil))))))
def F_l_one_right : List D → M D := fnM 8 1
    (sSeq (sPar 1 2 (mCons (mA F_l_take (mCons (mVar 0) (mCons (mA F_l_of (mCons (mVar 0) (mCons (mA lstD (mCons (mC (.int 3)) (mCons (mC (.int 9)) (mCons (mC (.int 60)) (mCons (m2 powD (mC (.int 10)) (mC (.int 6))) mNil))))) mNil))) mNil))) (mCons (mA F_l_of (mCons (mVar 0) (mCons (mA lstD (mCons (mC (.int 0)) (mCons (mC (.int 0)) (mCons (mC (.int 1)) (mCons (mC (.int 2)) (mCons (mA F_l_take (mCons (mVar 0) (mCons (mC (.int 400)) mNil))) mNil)))))) mNil))) mNil)))
    (sSeq (sAs (mA tupD (mCons (mA tupD (mCons (mVar 1) (mCons (mVar 2) mNil))) (mCons (mA F_l_of (mCons (mVar 0) (mCons (mA lstD (mCons (mC (.int 0)) (mCons (mC (.int 0)) (mCons (mC (.int 1)) (mCons (mC (.int 2)) (mCons (mVar 1) (mCons (m2 addD (mVar 1) (mC (.int 1))) (mCons (mA maxD (mCons (mC (.int 0)) (mCons (m2 subD (mVar 1) (mC (.int 1))) mNil))) (mCons (mA F_l_take (mCons (mVar 0) (mCons (mC (.int 21)) mNil))) mNil))))))))) mNil))) mNil))) (gT (gTc (gN 3) (gTc (gN 4) gT0))))
    (sSeq (sIf (tOf (m2 (eqB true) (mA reprD (mCons (mA F_later (mCons (mVar 3) (mCons (mVar 4) mNil))) mNil)) (mA reprD (mCons (mA F_l_later (mCons (mVar 3) (mCons (mVar 4) mNil))) mNil)))) (sRet (mC (.bl false))) sNx)
    (sSeq (sIf (tOf (m2 (eqB true) (mA reprD (mCons (mA (kwF 2 [1, 0] F_later) (mCons (mVar 4) (mCons (mVar 3) mNil))) mNil)) (mA reprD (mCons (mA F_l_later (mCons (mVar 3) (mCons (mVar 4) mNil))) mNil)))) (sRet (mC (.bl false))) sNx)
    (sSeq (sAs (mA F_ahead_of (mCons (mVar 3) (mCons (mVar 4) mNil))) (gN 5))
    (sSeq (sIf (Fa.tOr (tOf (m2 (eqB true) (mA reprD (mCons (mVar 5) mNil)) (mA reprD (mCons (mA F_l_ahead (mCons (mVar 3) (mCons (mVar 4) mNil))) mNil)))) (tOf (m2 (eqB true) (mA reprD (mCons (mA (kwF 2 [1, 0] F_ahead_of) (mCons (mVar 4) (mCons (mVar 3) mNil))) mNil)) (mA reprD (mCons (mVar 5) mNil))))) (sRet (mC (.bl false))) sNx)
    (sSeq (sAs (m2 addD (m2 addD (mA F_l_near (mCons (mA tupD (mCons (mVar 1) (mCons (mA minD (mCons (mVar 2) (mCons (mC (.int 5)) mNil))) mNil))) mNil)) (mA F_l_near (mCons (mA F_l_ahead (mCons (mVar 3) (mCons (mVar 4) mNil))) mNil))) (mA lstD (mCons (mA tupD (mCons (mC (.int 0)) (mCons (mC (.int 0)) mNil))) (mCons (mA tupD (mCons (mC (.int 0)) (mCons (mC (.int 1)) mNil))) mNil)))) (gN 6))
    (sRet (mA allD (mCons (mLc (mSrc (mVar 6)) (gN 7) tT (m2 (eqB false) (m2 geD (mA F_l_later (mCons (mVar 7) (mCons (mVar 4) mNil))) (mVar 3)) (m2 geD (mVar 7) (mVar 5))) [7]) mNil))))))))))
def F_l_pair_right : List D → M D := fnM 5 3
    (sSeq (sPar 3 4 (mCons (mA F_later (mCons (mVar 0) (mCons (mVar 2) mNil))) (mCons (mA F_later (mCons (mVar 1) (mCons (mVar 2) mNil))) mNil)))
    (sSeq (sIf (Fa.tOr (tNt (tOf (mA F_is_stamp (mCons (mVar 3) mNil)))) (Fa.tOr (tNt (tOf (mA F_is_stamp (mCons (mVar 4) mNil)))) (Fa.tOr (tOf (m2 leD (mVar 3) (mVar 0))) (tAn (tOf (m2 leD (mVar 0) (mVar 1))) (tOf (m2 gtD (mVar 3) (mVar 4))))))) (sRet (mC (.bl false))) sNx)
    (sSeq (sIf (tOf (m2 (eqB true) (m2 geD (mVar 3) (mVar 1)) (m2 geD (mVar 0) (mA F_ahead_of (mCons (mVar 1) (mCons (mVar 2) mNil)))))) (sRet (mC (.bl false))) sNx)
    (sRet (mAnd (m2 leD (mA F_ahead_of (mCons (mVar 3) (mCons (mVar 2) mNil))) (mVar 0)) (m2 (eqB false) (mA F_later (mCons (mA F_ahead_of (mCons (mVar 3) (mCons (mVar 2) mNil))) (mCons (mVar 2) mNil))) (mVar 3)))))))
def F_l_right : List D → M D := fnM 6 1
    (sSeq (sAs (mA F_l_moment (mCons (mVar 0) mNil)) (gN 1))
    (sSeq (sAs (mA F_l_beside (mCons (mVar 0) (mCons (mVar 1) mNil))) (gN 2))
    (sSeq (sPar 3 4 (mCons (mA F_l_of (mCons (mVar 0) (mCons (mA lstD (mCons (mC (.int 0)) (mCons (mC (.int 0)) (mCons (mC (.int 1)) (mCons (mC (.int 2)) (mCons (mA F_l_take (mCons (mVar 0) (mCons (mC (.int 21)) mNil))) mNil)))))) mNil))) (mCons (mA F_l_of (mCons (mVar 0) (mCons (mA lstD (mCons (mC (.int 0)) (mCons (mC (.int 1)) (mCons (mA F_l_take (mCons (mVar 0) (mCons (mC (.int 21)) mNil))) mNil)))) mNil))) mNil)))
    (sSeq (sIf (Fa.tOr (tNt (tOf (mA F_l_pair_right (mCons (mVar 1) (mCons (mVar 2) (mCons (mVar 3) mNil)))))) (tNt (tOf (mA F_l_pair_right (mCons (mVar 2) (mCons (mVar 1) (mCons (mVar 3) mNil))))))) (sRet (mC (.bl false))) sNx)
    (sSeq (sIf (tOf (m2 gtD (mA F_later (mCons (mVar 1) (mCons (mVar 3) mNil))) (mA F_later (mCons (mVar 1) (mCons (m2 addD (mVar 3) (mVar 4)) mNil))))) (sRet (mC (.bl false))) sNx)
    (sSeq (sAs (mA F_later (mCons (mA F_later (mCons (mVar 1) (mCons (mVar 3) mNil))) (mCons (mVar 4) mNil))) (gN 5))
    (sRet (mAnd (m2 geD (mVar 5) (mA F_later (mCons (mVar 1) (mCons (m2 addD (mVar 3) (mVar 4)) mNil)))) (mOr (m2 (eqB false) (mVar 3) (mC (.int 0))) (mOr (m2 (eqB false) (mVar 4) (mC (.int 0))) (m2 (eqB false) (mVar 5) (mA F_later (mCons (mVar 1) (mCons (m2 addD (mVar 3) (mVar 4)) mNil))))))))))))))
def F_law : List D → M D := fnM 4 1
    (sSeq (sFor (mRng1 (mCons (mA maxD (mCons (mC (.int 1)) (mCons (mA minD (mCons (mC (.int 3)) (mCons (mA lenD (mCons (mVar 0) mNil)) mNil))) mNil))) mNil)) (gN 1) (sSeq (sAs (mA F_l_pot (mCons (mVar 0) (mCons (mVar 1) mNil))) (gN 2))
    (sIf (Fa.tOr (tNt (tOf (mA allD (mCons (mLc (mRng1 (mCons (mC (.int 40)) mNil)) (gN 3) tT (mA F_l_one_right (mCons (mVar 2) mNil)) [3]) mNil)))) (tNt (tOf (mA allD (mCons (mLc (mRng1 (mCons (mC (.int 30)) mNil)) (gN 3) tT (mA F_l_right (mCons (mVar 2) mNil)) [3]) mNil))))) (sRet (mC (.bl false))) sNx)))
    (sRet (mC (.bl true))))
end Lw
namespace Lw
open PySem PySem.Spec PyProof.Rows L2 Fa
def topS (i : Nat) : Stmt := PySem.Challenge.pw_farasnothing_k11_whole_stamps_in_order.main.body.getD i (.Pass ⟨0, 0, 0, 0⟩)
abbrev n_is_count : List Str := ["value"]
theorem sc_is_count : FnScope n_is_count ["value"] (defScope (topS 6)) := ⟨rfl, rfl, rfl, by decide +kernel, rfl, by decide +kernel, by decide +kernel⟩
abbrev n_is_stamp : List Str := ["value", "part"]
theorem sc_is_stamp : FnScope n_is_stamp ["value"] (defScope (topS 7)) := ⟨rfl, rfl, rfl, by decide +kernel, rfl, by decide +kernel, by decide +kernel⟩
abbrev n_later_of : List Str := ["stamp", "delay", "time", "turn"]
theorem sc_later_of : FnScope n_later_of ["stamp", "delay"] (defScope (topS 8)) := ⟨rfl, rfl, rfl, by decide +kernel, rfl, by decide +kernel, by decide +kernel⟩
abbrev n_check_both : List Str := ["stamp", "delay"]
theorem sc_check_both : FnScope n_check_both ["stamp", "delay"] (defScope (topS 9)) := ⟨rfl, rfl, rfl, by decide +kernel, rfl, by decide +kernel, by decide +kernel⟩
abbrev n_later : List Str := ["stamp", "delay"]
theorem sc_later : FnScope n_later ["stamp", "delay"] (defScope (topS 10)) := ⟨rfl, rfl, rfl, by decide +kernel, rfl, by decide +kernel, by decide +kernel⟩
abbrev n_ahead_of : List Str := ["stamp", "delay", "time", "turn"]
theorem sc_ahead_of : FnScope n_ahead_of ["stamp", "delay"] (defScope (topS 11)) := ⟨rfl, rfl, rfl, by decide +kernel, rfl, by decide +kernel, by decide +kernel⟩
abbrev n_l_pot : List Str := ["_law_script", "_law_k", "_law_cell", "_law_own"]
theorem sc_l_pot : FnScope n_l_pot ["_law_script", "_law_k"] (defScope (topS 13)) := ⟨rfl, rfl, rfl, by decide +kernel, rfl, by decide +kernel, by decide +kernel⟩
abbrev n_l_take : List Str := ["_law_pot_here", "_law_upto", "_law_digit", "_law_prime", "_law_mixed"]
theorem sc_l_take : FnScope n_l_take ["_law_pot_here", "_law_upto"] (defScope (topS 14)) := ⟨rfl, rfl, rfl, by decide +kernel, rfl, by decide +kernel, by decide +kernel⟩
abbrev n_l_of : List Str := ["_law_pot_here", "_law_some"]
theorem sc_l_of : FnScope n_l_of ["_law_pot_here", "_law_some"] (defScope (topS 15)) := ⟨rfl, rfl, rfl, by decide +kernel, rfl, by decide +kernel, by decide +kernel⟩
abbrev n_l_moment : List Str := ["_law_pot_here"]
theorem sc_l_moment : FnScope n_l_moment ["_law_pot_here"] (defScope (topS 16)) := ⟨rfl, rfl, rfl, by decide +kernel, rfl, by decide +kernel, by decide +kernel⟩
abbrev n_l_beside : List Str := ["_law_pot_here", "_law_one", "_law_time", "_law_turn", "_law_some"]
theorem sc_l_beside : FnScope n_l_beside ["_law_pot_here", "_law_one"] (defScope (topS 17)) := ⟨rfl, rfl, rfl, by decide +kernel, rfl, by decide +kernel, by decide +kernel⟩
abbrev n_l_later : List Str := ["_law_moment_here", "_law_gap"]
theorem sc_l_later : FnScope n_l_later ["_law_moment_here", "_law_gap"] (defScope (topS 18)) := ⟨rfl, rfl, rfl, by decide +kernel, rfl, by decide +kernel, by decide +kernel⟩
abbrev n_l_ahead : List Str := ["_law_moment_here", "_law_gap", "_law_time", "_law_turn", "_law_first"]
theorem sc_l_ahead : FnScope n_l_ahead ["_law_moment_here", "_law_gap"] (defScope (topS 19)) := ⟨rfl, rfl, rfl, by decide +kernel, rfl, by decide +kernel, by decide +kernel⟩
abbrev n_l_near : List Str := ["_law_moment_here", "_law_time", "_law_turn", "_law_found", "_law_beside_here", "_law_other"]
theorem sc_l_near : FnScope n_l_near ["_law_moment_here"] (defScope (topS 20)) := ⟨rfl, rfl, rfl, by decide +kernel, rfl, by decide +kernel, by decide +kernel⟩
abbrev n_l_one_right : List Str := ["_law_pot_here", "_law_time", "_law_turn", "_law_moment_here", "_law_gap", "_law_told", "_law_some", "_law_one"]
theorem sc_l_one_right : FnScope n_l_one_right ["_law_pot_here"] (defScope (topS 21)) := ⟨rfl, rfl, rfl, by decide +kernel, rfl, by decide +kernel, by decide +kernel⟩
abbrev n_l_pair_right : List Str := ["_law_one", "_law_other", "_law_gap", "_law_far", "_law_near_here"]
theorem sc_l_pair_right : FnScope n_l_pair_right ["_law_one", "_law_other", "_law_gap"] (defScope (topS 22)) := ⟨rfl, rfl, rfl, by decide +kernel, rfl, by decide +kernel, by decide +kernel⟩
abbrev n_l_right : List Str := ["_law_pot_here", "_law_one", "_law_other", "_law_gap", "_law_more", "_law_both"]
theorem sc_l_right : FnScope n_l_right ["_law_pot_here"] (defScope (topS 23)) := ⟨rfl, rfl, rfl, by decide +kernel, rfl, by decide +kernel, by decide +kernel⟩
abbrev n_law : List Str := ["_law_script", "_law_k", "_law_pot_here", "_law_turn"]
theorem sc_law : FnScope n_law ["_law_script"] (defScope (topS 24)) := ⟨rfl, rfl, rfl, by decide +kernel, rfl, by decide +kernel, by decide +kernel⟩
/-! FEND -/
structure Tx (K : PySem.W.Frag) (mg : Str → Option Value) where
  f_is_count : Addr
  d_is_count : FuncData
  u_is_count : Fun K "is_count" "is_count" (topS 6) f_is_count d_is_count
  g_is_count : mg "is_count" = some (.ref f_is_count)
  b_is_count : Binds K d_is_count ["value"] []
  f_is_stamp : Addr
  d_is_stamp : FuncData
  u_is_stamp : Fun K "is_stamp" "is_stamp" (topS 7) f_is_stamp d_is_stamp
  g_is_stamp : mg "is_stamp" = some (.ref f_is_stamp)
  b_is_stamp : Binds K d_is_stamp ["value"] []
  f_later_of : Addr
  d_later_of : FuncData
  u_later_of : Fun K "later_of" "later_of" (topS 8) f_later_of d_later_of
  g_later_of : mg "later_of" = some (.ref f_later_of)
  b_later_of : Binds K d_later_of ["stamp", "delay"] []
  f_check_both : Addr
  d_check_both : FuncData
  u_check_both : Fun K "check_both" "check_both" (topS 9) f_check_both d_check_both
  g_check_both : mg "check_both" = some (.ref f_check_both)
  b_check_both : Binds K d_check_both ["stamp", "delay"] []
  f_later : Addr
  d_later : FuncData
  u_later : Fun K "later" "later" (topS 10) f_later d_later
  g_later : mg "later" = some (.ref f_later)
  b_later : Binds K d_later ["stamp", "delay"] []
  f_ahead_of : Addr
  d_ahead_of : FuncData
  u_ahead_of : Fun K "ahead_of" "ahead_of" (topS 11) f_ahead_of d_ahead_of
  g_ahead_of : mg "ahead_of" = some (.ref f_ahead_of)
  b_ahead_of : Binds K d_ahead_of ["stamp", "delay"] []
  f_l_pot : Addr
  d_l_pot : FuncData
  u_l_pot : Fun K "_law_pot" "_law_pot" (topS 13) f_l_pot d_l_pot
  g_l_pot : mg "_law_pot" = some (.ref f_l_pot)
  b_l_pot : Binds K d_l_pot ["_law_script", "_law_k"] []
  f_l_take : Addr
  d_l_take : FuncData
  u_l_take : Fun K "_law_take" "_law_take" (topS 14) f_l_take d_l_take
  g_l_take : mg "_law_take" = some (.ref f_l_take)
  b_l_take : Binds K d_l_take ["_law_pot_here", "_law_upto"] []
  f_l_of : Addr
  d_l_of : FuncData
  u_l_of : Fun K "_law_of" "_law_of" (topS 15) f_l_of d_l_of
  g_l_of : mg "_law_of" = some (.ref f_l_of)
  b_l_of : Binds K d_l_of ["_law_pot_here", "_law_some"] []
  f_l_moment : Addr
  d_l_moment : FuncData
  u_l_moment : Fun K "_law_moment" "_law_moment" (topS 16) f_l_moment d_l_moment
  g_l_moment : mg "_law_moment" = some (.ref f_l_moment)
  b_l_moment : Binds K d_l_moment ["_law_pot_here"] []
  f_l_beside : Addr
  d_l_beside : FuncData
  u_l_beside : Fun K "_law_beside" "_law_beside" (topS 17) f_l_beside d_l_beside
  g_l_beside : mg "_law_beside" = some (.ref f_l_beside)
  b_l_beside : Binds K d_l_beside ["_law_pot_here", "_law_one"] []
  f_l_later : Addr
  d_l_later : FuncData
  u_l_later : Fun K "_law_later" "_law_later" (topS 18) f_l_later d_l_later
  g_l_later : mg "_law_later" = some (.ref f_l_later)
  b_l_later : Binds K d_l_later ["_law_moment_here", "_law_gap"] []
  f_l_ahead : Addr
  d_l_ahead : FuncData
  u_l_ahead : Fun K "_law_ahead" "_law_ahead" (topS 19) f_l_ahead d_l_ahead
  g_l_ahead : mg "_law_ahead" = some (.ref f_l_ahead)
  b_l_ahead : Binds K d_l_ahead ["_law_moment_here", "_law_gap"] []
  f_l_near : Addr
  d_l_near : FuncData
  u_l_near : Fun K "_law_near" "_law_near" (topS 20) f_l_near d_l_near
  g_l_near : mg "_law_near" = some (.ref f_l_near)
  b_l_near : Binds K d_l_near ["_law_moment_here"] []
  f_l_one_right : Addr
  d_l_one_right : FuncData
  u_l_one_right : Fun K "_law_one_right" "_law_one_right" (topS 21) f_l_one_right d_l_one_right
  g_l_one_right : mg "_law_one_right" = some (.ref f_l_one_right)
  b_l_one_right : Binds K d_l_one_right ["_law_pot_here"] []
  f_l_pair_right : Addr
  d_l_pair_right : FuncData
  u_l_pair_right : Fun K "_law_pair_right" "_law_pair_right" (topS 22) f_l_pair_right d_l_pair_right
  g_l_pair_right : mg "_law_pair_right" = some (.ref f_l_pair_right)
  b_l_pair_right : Binds K d_l_pair_right ["_law_one", "_law_other", "_law_gap"] []
  f_l_right : Addr
  d_l_right : FuncData
  u_l_right : Fun K "_law_right" "_law_right" (topS 23) f_l_right d_l_right
  g_l_right : mg "_law_right" = some (.ref f_l_right)
  b_l_right : Binds K d_l_right ["_law_pot_here"] []
  f_law : Addr
  d_law : FuncData
  u_law : Fun K "law" "law" (topS 24) f_law d_law
  g_law : mg "law" = some (.ref f_law)
  b_law : Binds K d_law ["_law_script"] []
  z_abs : mg "abs" = none
  z_all : mg "all" = none
  z_bool : mg "bool" = none
  z_int : mg "int" = none
  z_isinstance : mg "isinstance" = none
  z_len : mg "len" = none
  z_max : mg "max" = none
  z_min : mg "min" = none
  z_range : mg "range" = none
  z_repr : mg "repr" = none
  z_tuple : mg "tuple" = none
  t_PARTS : Tok
  c_PARTS : mg "PARTS" = some (.int 2 t_PARTS)
section
variable {P : Program} {w : World} {K : PySem.W.Frag} {mg : Str → Option Value} {base : Heap} (T : Tx K mg)
include T
theorem kb_later_delay_stamp : KB K T.d_later ["stamp", "delay"] ["delay", "stamp"] 0 [1, 0] := fun s us ws _ h1 h2 => by
  obtain ⟨oc, od, kV, doc, pm, an, cdv, ct, osl, e, lk, hcd⟩ := T.u_later.ex
  rw [e]
  match us, ws, h1, h2 with
  | [], [_, _], _, _ => exact .of_eq rfl
theorem kb_ahead_of_delay_stamp : KB K T.d_ahead_of ["stamp", "delay"] ["delay", "stamp"] 0 [1, 0] := fun s us ws _ h1 h2 => by
  obtain ⟨oc, od, kV, doc, pm, an, cdv, ct, osl, e, lk, hcd⟩ := T.u_ahead_of.ex
  rw [e]
  match us, ws, h1, h2 with
  | [], [_, _], _, _ => exact .of_eq rfl
theorem G_is_count : FnG P w K mg base 1 T.f_is_count T.d_is_count ["value"] F_is_count :=
  fnG_mk (k := 0) T.u_is_count sc_is_count fun cdv A outer s H E hr hgd tk =>
      (sb_one (ss_ret (se_and (se_callB call_isi o_isi (by rfl) T.z_isinstance (by decide +kernel) (sa_cons (se_var 0 (pv 0)) (sa_cons (se_c (v := .ty "int") (pe_bltn (u := .type "int") (by rfl) T.z_int (by decide +kernel) rfl) fun _ _ _ => .ty "int") sa_nil))) (se_and (se_not (se_callB call_isi o_isi (by rfl) T.z_isinstance (by decide +kernel) (sa_cons (se_var 0 (pv 0)) (sa_cons (se_c (v := .ty "bool") (pe_bltn (u := .type "bool") (by rfl) T.z_bool (by decide +kernel) rfl) fun _ _ _ => .ty "bool") sa_nil)))) (se_one (se_cmp (op_geA hr.units0) o_ord (se_var 0 (pv 0)) se_int (nomark _)))))))
theorem G_later_of : FnG P w K mg base 1 T.f_later_of T.d_later_of ["stamp", "delay"] F_later_of :=
  fnG_mk (k := 0) T.u_later_of sc_later_of fun cdv A outer s H E hr hgd tk =>
      (sb_cons (ss_if (st_cmp op_isN o_isN (se_var 0 (pv 0)) se_non (nomark _)) (sb_one (ss_ret se_non)) sb_nil)
      (sb_cons (ss_as (se_var 0 (pv 0)) (sg_tup rfl (sgs_cons (sg_name (pg_name (i := 2) sc_later_of.nd rfl (by first | exact Or.inl rfl | exact Or.inr rfl))) (sgs_cons (sg_name (pg_name (i := 3) sc_later_of.nd rfl (by first | exact Or.inl rfl | exact Or.inr rfl))) sgs_nil gT0_noerr) (gTc_noerr gN_noerr gT0_noerr)) (by rfl) (gTc_len (gTc_len gT0_len)) (gTc_noerr gN_noerr (gTc_noerr gN_noerr gT0_noerr))))
      (sb_cons (ss_if (st_cmp (op_gtA hr.units0) o_ord (se_var 1 (pv 1)) se_int (nomark _)) (sb_one (ss_ret (se_tup (sa_cons (se_op op_addAll o_add (se_var 2 (pv 2)) (se_var 1 (pv 1))) (sa_cons se_int sa_nil))))) sb_nil)
      (sb_one (ss_ret (se_tup (sa_cons (se_var 2 (pv 2)) (sa_cons (se_if (st_cmp op_isN o_isN (se_var 3 (pv 3)) se_non (nomark _)) se_non (se_op op_addAll o_add (se_var 3 (pv 3)) se_int)) sa_nil))))))))
theorem G_l_pot : FnG P w K mg base 1 T.f_l_pot T.d_l_pot ["_law_script", "_law_k"] F_l_pot :=
  fnG_mk (k := 0) T.u_l_pot sc_l_pot fun cdv A outer s H E hr hgd tk =>
      (sb_cons (ss_set (i := 2) sc_l_pot.nd rfl (by first | exact Or.inl rfl | exact Or.inr rfl) (se_if (st_cmp (op_ltA hr.units0) o_ord (se_var 1 (pv 1)) (se_callB call_lenAll o_len (by rfl) T.z_len (by decide +kernel) (sa_cons (se_var 0 (pv 0)) sa_nil)) (nomark _)) (se_ix ix_seq o_ix (se_var 0 (pv 0)) (se_var 1 (pv 1)) (fun _ _ => rfl)) (se_op op_addAll o_add (se_op op_mul o_mul se_int (se_var 1 (pv 1))) se_int)))
      (sb_cons (ss_set (i := 3) sc_l_pot.nd rfl (by first | exact Or.inl rfl | exact Or.inr rfl) (se_op op_mul o_mul (se_op op_modN o_mod (se_callTy call_int1 o_int (by rfl) T.z_int (by decide +kernel) (sa_cons (se_callB call_abs o_abs (by rfl) T.z_abs (by decide +kernel) (sa_cons (se_var 2 (pv 2)) sa_nil)) sa_nil)) (se_op op_powG o_pow (se_op op_powG o_pow se_int se_int) se_int)) (se_callTy call_int1 o_int (by rfl) T.z_int (by decide +kernel) (sa_cons (se_cmp (op_geA hr.units0) o_ord (se_callB call_abs o_abs (by rfl) T.z_abs (by decide +kernel) (sa_cons (se_var 2 (pv 2)) sa_nil)) (se_op op_powG o_pow se_int se_int) (nomark _)) sa_nil))))
      (sb_one (ss_ret (se_lst (sa_cons (se_var 3 (pv 3)) (sa_cons (se_op op_modN o_mod (se_callTy call_int1 o_int (by rfl) T.z_int (by decide +kernel) (sa_cons (se_op op_addAll o_add (se_op op_addAll o_add (se_op op_mul o_mul (se_op op_modN o_mod (se_callTy call_int1 o_int (by rfl) T.z_int (by decide +kernel) (sa_cons (se_var 2 (pv 2)) sa_nil)) se_int) se_int) (se_op op_mul o_mul (se_op op_mul o_mul se_int (se_var 1 (pv 1))) (se_var 1 (pv 1)))) se_int) sa_nil)) se_int) (sa_cons se_int sa_nil))))))))
theorem G_l_take : FnG P w K mg base 1 T.f_l_take T.d_l_take ["_law_pot_here", "_law_upto"] F_l_take :=
  fnG_mk (k := 0) T.u_l_take sc_l_take fun cdv A outer s H E hr hgd tk =>
      (sb_cons (ss_if (st_cmp (op_gtA hr.units0) o_ord (se_ix ix_seq o_ix (se_var 0 (pv 0)) se_int (fun _ _ => rfl)) se_int (nomark _)) (sb_cons (ss_set (i := 2) sc_l_take.nd rfl (by first | exact Or.inl rfl | exact Or.inr rfl) (se_op op_modN o_mod (se_callTy call_int1 o_int (by rfl) T.z_int (by decide +kernel) (sa_cons (se_ix ix_seq o_ix (se_var 0 (pv 0)) se_int (fun _ _ => rfl)) sa_nil)) (se_var 1 (pv 1))))
      (sb_cons (ss_as (se_op op_fdivN o_fdiv (se_ix ix_seq o_ix (se_var 0 (pv 0)) se_int (fun _ _ => rfl)) (se_var 1 (pv 1))) (sg_sub (se_var 0 (pv 0)) se_int))
      (sb_one (ss_ret (se_var 2 (pv 2)))))) sb_nil)
      (sb_cons (ss_as (se_op op_addAll o_add (se_ix ix_seq o_ix (se_var 0 (pv 0)) se_int (fun _ _ => rfl)) se_int) (sg_sub (se_var 0 (pv 0)) se_int))
      (sb_cons (ss_set (i := 3) sc_l_take.nd rfl (by first | exact Or.inl rfl | exact Or.inr rfl) (se_ix ix_seq o_ix (se_lst (sa_cons se_int (sa_cons se_int (sa_cons se_int (sa_cons se_int (sa_cons se_int sa_nil)))))) (se_op op_modN o_mod (se_callTy call_int1 o_int (by rfl) T.z_int (by decide +kernel) (sa_cons (se_ix ix_seq o_ix (se_var 0 (pv 0)) se_int (fun _ _ => rfl)) sa_nil)) se_int) (fun _ _ => rfl)))
      (sb_cons (ss_set (i := 4) sc_l_take.nd rfl (by first | exact Or.inl rfl | exact Or.inr rfl) (se_op op_modN o_mod (se_callTy call_int1 o_int (by rfl) T.z_int (by decide +kernel) (sa_cons (se_op op_powG o_pow (se_callTy call_int1 o_int (by rfl) T.z_int (by decide +kernel) (sa_cons (se_op op_addAll o_add (se_op op_addAll o_add (se_ix ix_seq o_ix (se_var 0 (pv 0)) se_int (fun _ _ => rfl)) (se_op op_mul o_mul (se_op op_mul o_mul se_int (se_ix ix_seq o_ix (se_var 0 (pv 0)) se_int (fun _ _ => rfl))) (se_ix ix_seq o_ix (se_var 0 (pv 0)) se_int (fun _ _ => rfl)))) se_int) sa_nil)) se_int) sa_nil)) (se_var 3 (pv 3))))
      (sb_cons (ss_set (i := 4) sc_l_take.nd rfl (by first | exact Or.inl rfl | exact Or.inr rfl) (se_op op_modN o_mod (se_callTy call_int1 o_int (by rfl) T.z_int (by decide +kernel) (sa_cons (se_op op_mul o_mul (se_var 4 (pv 4)) (se_op op_addAll o_add (se_op op_modN o_mod (se_callTy call_int1 o_int (by rfl) T.z_int (by decide +kernel) (sa_cons (se_var 4 (pv 4)) sa_nil)) se_int) (se_op op_mul o_mul se_int (se_ix ix_seq o_ix (se_var 0 (pv 0)) se_int (fun _ _ => rfl))))) sa_nil)) se_int))
      (sb_one (ss_ret (se_op op_modN o_mod (se_callTy call_int1 o_int (by rfl) T.z_int (by decide +kernel) (sa_cons (se_op op_fdivN o_fdiv (se_var 4 (pv 4)) se_int) sa_nil)) (se_var 1 (pv 1))))))))))
theorem G_l_later : FnG P w K mg base 1 T.f_l_later T.d_l_later ["_law_moment_here", "_law_gap"] F_l_later :=
  fnG_mk (k := 0) T.u_l_later sc_l_later fun cdv A outer s H E hr hgd tk =>
      (sb_one (ss_ret (se_if (st_cmp (op_gtA hr.units0) o_ord (se_var 1 (pv 1)) se_int (nomark _)) (se_tup (sa_cons (se_op op_addAll o_add (se_ix ix_seq o_ix (se_var 0 (pv 0)) se_int (fun _ _ => rfl)) (se_var 1 (pv 1))) (sa_cons se_int sa_nil))) (se_tup (sa_cons (se_ix ix_seq o_ix (se_var 0 (pv 0)) se_int (fun _ _ => rfl)) (sa_cons (se_op op_addAll o_add (se_ix ix_seq o_ix (se_var 0 (pv 0)) se_int (fun _ _ => rfl)) se_int) sa_nil))))))
theorem G_l_ahead : FnG P w K mg base 1 T.f_l_ahead T.d_l_ahead ["_law_moment_here", "_law_gap"] F_l_ahead :=
  fnG_mk (k := 0) T.u_l_ahead sc_l_ahead fun cdv A outer s H E hr hgd tk =>
      (sb_cons (ss_as (se_var 0 (pv 0)) (sg_tup rfl (sgs_cons (sg_name (pg_name (i := 2) sc_l_ahead.nd rfl (by first | exact Or.inl rfl | exact Or.inr rfl))) (sgs_cons (sg_name (pg_name (i := 3) sc_l_ahead.nd rfl (by first | exact Or.inl rfl | exact Or.inr rfl))) sgs_nil gT0_noerr) (gTc_noerr gN_noerr gT0_noerr)) (by rfl) (gTc_len (gTc_len gT0_len)) (gTc_noerr gN_noerr (gTc_noerr gN_noerr gT0_noerr))))
      (sb_cons (ss_if (st_cmp (op_eqA hr.units) o_eq (se_var 1 (pv 1)) se_int (nomark _)) (sb_one (ss_ret (se_tup (sa_cons (se_var 2 (pv 2)) (sa_cons (se_callB (call_max2 rfl) o_max (by rfl) T.z_max (by decide +kernel) (sa_cons se_int (sa_cons (se_op op_sub o_sub (se_var 3 (pv 3)) se_int) sa_nil))) sa_nil))))) sb_nil)
      (sb_cons (ss_set (i := 4) sc_l_ahead.nd rfl (by first | exact Or.inl rfl | exact Or.inr rfl) (se_if (st_cmp (op_eqA hr.units) o_eq (se_var 3 (pv 3)) se_int (nomark _)) (se_op op_sub o_sub (se_var 2 (pv 2)) (se_var 1 (pv 1))) (se_op op_addAll o_add (se_op op_sub o_sub (se_var 2 (pv 2)) (se_var 1 (pv 1))) se_int)))
      (sb_one (ss_ret (se_tup (sa_cons (se_callB (call_max2 rfl) o_max (by rfl) T.z_max (by decide +kernel) (sa_cons se_int (sa_cons (se_var 4 (pv 4)) sa_nil))) (sa_cons se_int sa_nil))))))))
theorem G_l_near : FnG P w K mg base 1 T.f_l_near T.d_l_near ["_law_moment_here"] F_l_near :=
  fnG_mk (k := 0) T.u_l_near sc_l_near fun cdv A outer s H E hr hgd tk =>
      (sb_cons (ss_as (se_var 0 (pv 0)) (sg_tup rfl (sgs_cons (sg_name (pg_name (i := 1) sc_l_near.nd rfl (by first | exact Or.inl rfl | exact Or.inr rfl))) (sgs_cons (sg_name (pg_name (i := 2) sc_l_near.nd rfl (by first | exact Or.inl rfl | exact Or.inr rfl))) sgs_nil gT0_noerr) (gTc_noerr gN_noerr gT0_noerr)) (by rfl) (gTc_len (gTc_len gT0_len)) (gTc_noerr gN_noerr (gTc_noerr gN_noerr gT0_noerr))))
      (sb_cons (ss_set (i := 3) sc_l_near.nd rfl (by first | exact Or.inl rfl | exact Or.inr rfl) (se_lst sa_nil))
      (sb_cons (ss_for (passes_of rfl) rfl (si_range2 (by rfl) T.z_range (sa_cons (se_callB (call_max2 rfl) o_max (by rfl) T.z_max (by decide +kernel) (sa_cons se_int (sa_cons (se_op op_sub o_sub (se_var 1 (pv 1)) se_int) sa_nil))) (sa_cons (se_op op_addAll o_add (se_var 1 (pv 1)) se_int) sa_nil))) (sg_name (pg_name (i := 4) sc_l_near.nd rfl (by first | exact Or.inl rfl | exact Or.inr rfl))) (sb_one (ss_expr (se_lm (name := "extend") o_ext (se_var 3 (pv 3)) (sa_cons (se_lc (own := [("_law_other", 5)]) rfl sc_l_near.nd (si_range1 (by rfl) T.z_range (sa_cons (se_op op_addAll o_add (se_var 2 (pv 2)) se_int) sa_nil)) (blkOk_by (N := n_l_near) (sc := defScope (topS 20)) (by decide +kernel)) (fun _ _ _ _ _ => (sg_name (pg_name (i := 5) sc_l_near.nd rfl (by first | exact Or.inl rfl | exact Or.inr rfl)))) (fun _ _ _ _ _ => pts0) (fun _ _ _ _ _ => (se_tup (sa_cons (se_var 4 (pv 4)) (sa_cons (se_var 5 (pv 5)) sa_nil))))) sa_nil) (fun h1 h2 => pe_bm PySem.F.plainAttrs_list PySem.F.slot_list_extend PySem.F.type_list_extend mt_extend h1 h2)))))
      (sb_one (ss_ret (se_var 3 (pv 3)))))))
theorem G_is_stamp : FnG P w K mg base 2 T.f_is_stamp T.d_is_stamp ["value"] F_is_stamp :=
  fnG_mk (k := 1) T.u_is_stamp sc_is_stamp fun cdv A outer s H E hr hgd tk =>
      (sb_one (ss_ret (se_and (se_callB call_isi o_isi (by rfl) T.z_isinstance (by decide +kernel) (sa_cons (se_var 0 (pv 0)) (sa_cons (se_c (v := .ty "tuple") (pe_bltn (u := .type "tuple") (by rfl) T.z_tuple (by decide +kernel) rfl) fun _ _ _ => .ty "tuple") sa_nil))) (se_and (se_cmp (op_eqA hr.units) o_eq (se_callB call_lenAll o_len (by rfl) T.z_len (by decide +kernel) (sa_cons (se_var 0 (pv 0)) sa_nil)) (se_c (v := .int 2) (pe_glob (by rfl) T.c_PARTS ⟨_, rfl⟩) fun _ _ _ => .int 2) (nomark _)) (se_one (se_callB (cr_all rfl) o_all (by rfl) T.z_all (by decide +kernel) (sa_cons (se_lc (own := [("part", 1)]) rfl sc_is_stamp.nd (si_any (se_var 0 (pv 0))) (blkOk_by (N := n_is_stamp) (sc := defScope (topS 7)) (by decide +kernel)) (fun _ _ _ _ _ => (sg_name (pg_name (i := 1) sc_is_stamp.nd rfl (by first | exact Or.inl rfl | exact Or.inr rfl)))) (fun _ _ _ _ _ => pts0) (fun _ _ _ _ _ => (se_call (G_is_count T) (hr.mono (by decide)) hgd takes0 (by rfl) T.g_is_count T.u_is_count.kp T.b_is_count fnM_arity (sa_cons (se_var 1 (pv 1)) sa_nil)))) sa_nil)))))))
theorem G_l_of : FnG P w K mg base 2 T.f_l_of T.d_l_of ["_law_pot_here", "_law_some"] F_l_of :=
  fnG_mk (k := 1) T.u_l_of sc_l_of fun cdv A outer s H E hr hgd tk =>
      (sb_one (ss_ret (se_ix ix_seq o_ix (se_var 1 (pv 1)) (se_call (G_l_take T) (hr.mono (by decide)) hgd tk (by rfl) T.g_l_take T.u_l_take.kp T.b_l_take fnM_arity (sa_cons (se_var 0 (pv 0)) (sa_cons (se_callB call_lenAll o_len (by rfl) T.z_len (by decide +kernel) (sa_cons (se_var 1 (pv 1)) sa_nil)) sa_nil))) (fun _ _ => rfl))))
theorem G_check_both : FnG P w K mg base 3 T.f_check_both T.d_check_both ["stamp", "delay"] F_check_both :=
  fnG_mk (k := 2) T.u_check_both sc_check_both fun cdv A outer s H E hr hgd tk =>
      (sb_cons (ss_if (st_not (st_of (se_call (G_is_stamp T) (hr.mono (by decide)) hgd tk (by rfl) T.g_is_stamp T.u_is_stamp.kp T.b_is_stamp fnM_arity (sa_cons (se_var 0 (pv 0)) sa_nil)))) (sb_one ss_never) sb_nil)
      (sb_one (ss_if (st_not (st_of (se_call (G_is_count T) (hr.mono (by decide)) hgd tk (by rfl) T.g_is_count T.u_is_count.kp T.b_is_count fnM_arity (sa_cons (se_var 1 (pv 1)) sa_nil)))) (sb_one ss_never) sb_nil)))
theorem G_l_moment : FnG P w K mg base 3 T.f_l_moment T.d_l_moment ["_law_pot_here"] F_l_moment :=
  fnG_mk (k := 2) T.u_l_moment sc_l_moment fun cdv A outer s H E hr hgd tk =>
      (sb_one (ss_ret (se_tup (sa_cons (se_call (G_l_take T) (hr.mono (by decide)) hgd tk (by rfl) T.g_l_take T.u_l_take.kp T.b_l_take fnM_arity (sa_cons (se_var 0 (pv 0)) (sa_cons (se_call (G_l_of T) (hr.mono (by decide)) hgd tk (by rfl) T.g_l_of T.u_l_of.kp T.b_l_of fnM_arity (sa_cons (se_var 0 (pv 0)) (sa_cons (se_lst (sa_cons se_int (sa_cons se_int (sa_cons se_int (sa_cons (se_op op_powG o_pow se_int se_int) sa_nil))))) sa_nil))) sa_nil))) (sa_cons (se_call (G_l_of T) (hr.mono (by decide)) hgd tk (by rfl) T.g_l_of T.u_l_of.kp T.b_l_of fnM_arity (sa_cons (se_var 0 (pv 0)) (sa_cons (se_lst (sa_cons se_int (sa_cons se_int (sa_cons se_int (sa_cons se_int (sa_cons (se_call (G_l_take T) (hr.mono (by decide)) hgd tk (by rfl) T.g_l_take T.u_l_take.kp T.b_l_take fnM_arity (sa_cons (se_var 0 (pv 0)) (sa_cons se_int sa_nil))) sa_nil)))))) sa_nil))) sa_nil)))))
theorem G_later : FnG P w K mg base 4 T.f_later T.d_later ["stamp", "delay"] F_later :=
  fnG_mk (k := 3) T.u_later sc_later fun cdv A outer s H E hr hgd tk =>
      (sb_cons (ss_expr (se_call (G_check_both T) (hr.mono (by decide)) hgd tk (by rfl) T.g_check_both T.u_check_both.kp T.b_check_both fnM_arity (sa_cons (se_var 0 (pv 0)) (sa_cons (se_var 1 (pv 1)) sa_nil))))
      (sb_one (ss_ret (se_call (G_later_of T) (hr.mono (by decide)) hgd tk (by rfl) T.g_later_of T.u_later_of.kp T.b_later_of fnM_arity (sa_cons (se_var 0 (pv 0)) (sa_cons (se_var 1 (pv 1)) sa_nil))))))
theorem G_ahead_of : FnG P w K mg base 4 T.f_ahead_of T.d_ahead_of ["stamp", "delay"] F_ahead_of :=
  fnG_mk (k := 3) T.u_ahead_of sc_ahead_of fun cdv A outer s H E hr hgd tk =>
      (sb_cons (ss_expr (se_call (G_check_both T) (hr.mono (by decide)) hgd tk (by rfl) T.g_check_both T.u_check_both.kp T.b_check_both fnM_arity (sa_cons (se_var 0 (pv 0)) (sa_cons (se_var 1 (pv 1)) sa_nil))))
      (sb_cons (ss_as (se_var 0 (pv 0)) (sg_tup rfl (sgs_cons (sg_name (pg_name (i := 2) sc_ahead_of.nd rfl (by first | exact Or.inl rfl | exact Or.inr rfl))) (sgs_cons (sg_name (pg_name (i := 3) sc_ahead_of.nd rfl (by first | exact Or.inl rfl | exact Or.inr rfl))) sgs_nil gT0_noerr) (gTc_noerr gN_noerr gT0_noerr)) (by rfl) (gTc_len (gTc_len gT0_len)) (gTc_noerr gN_noerr (gTc_noerr gN_noerr gT0_noerr))))
      (sb_cons (ss_if (st_cmp (op_eqA hr.units) o_eq (se_var 1 (pv 1)) se_int (nomark _)) (sb_one (ss_ret (se_tup (sa_cons (se_var 2 (pv 2)) (sa_cons (se_callB (call_max2 rfl) o_max (by rfl) T.z_max (by decide +kernel) (sa_cons se_int (sa_cons (se_op op_sub o_sub (se_var 3 (pv 3)) se_int) sa_nil))) sa_nil))))) sb_nil)
      (sb_one (ss_ret (se_tup (sa_cons (se_callB (call_max2 rfl) o_max (by rfl) T.z_max (by decide +kernel) (sa_cons se_int (sa_cons (se_op op_addAll o_add (se_op op_sub o_sub (se_var 2 (pv 2)) (se_var 1 (pv 1))) (se_callTy call_int1 o_int (by rfl) T.z_int (by decide +kernel) (sa_cons (se_cmp (op_gtA hr.units0) o_ord (se_var 3 (pv 3)) se_int (nomark _)) sa_nil))) sa_nil))) (sa_cons se_int sa_nil))))))))
theorem G_l_beside : FnG P w K mg base 4 T.f_l_beside T.d_l_beside ["_law_pot_here", "_law_one"] F_l_beside :=
  fnG_mk (k := 3) T.u_l_beside sc_l_beside fun cdv A outer s H E hr hgd tk =>
      (sb_cons (ss_as (se_var 1 (pv 1)) (sg_tup rfl (sgs_cons (sg_name (pg_name (i := 2) sc_l_beside.nd rfl (by first | exact Or.inl rfl | exact Or.inr rfl))) (sgs_cons (sg_name (pg_name (i := 3) sc_l_beside.nd rfl (by first | exact Or.inl rfl | exact Or.inr rfl))) sgs_nil gT0_noerr) (gTc_noerr gN_noerr gT0_noerr)) (by rfl) (gTc_len (gTc_len gT0_len)) (gTc_noerr gN_noerr (gTc_noerr gN_noerr gT0_noerr))))
      (sb_cons (ss_set (i := 4) sc_l_beside.nd rfl (by first | exact Or.inl rfl | exact Or.inr rfl) (se_lst (sa_cons (se_var 1 (pv 1)) (sa_cons (se_tup (sa_cons (se_var 2 (pv 2)) (sa_cons (se_op op_addAll o_add (se_var 3 (pv 3)) se_int) sa_nil))) (sa_cons (se_tup (sa_cons (se_op op_addAll o_add (se_var 2 (pv 2)) se_int) (sa_cons se_int sa_nil))) (sa_cons (se_tup (sa_cons (se_op op_addAll o_add (se_var 2 (pv 2)) se_int) (sa_cons (se_var 3 (pv 3)) sa_nil))) (sa_cons (se_tup (sa_cons (se_var 2 (pv 2)) (sa_cons se_int sa_nil))) (sa_cons (se_tup (sa_cons (se_callB (call_max2 rfl) o_max (by rfl) T.z_max (by decide +kernel) (sa_cons se_int (sa_cons (se_op op_sub o_sub (se_var 2 (pv 2)) se_int) sa_nil))) (sa_cons (se_op op_addAll o_add (se_var 3 (pv 3)) se_int) sa_nil))) sa_nil))))))))
      (sb_one (ss_ret (se_call (G_l_of T) (hr.mono (by decide)) hgd tk (by rfl) T.g_l_of T.u_l_of.kp T.b_l_of fnM_arity (sa_cons (se_var 0 (pv 0)) (sa_cons (se_op op_addAll o_add (se_var 4 (pv 4)) (se_lst (sa_cons (se_call (G_l_moment T) (hr.mono (by decide)) hgd tk (by rfl) T.g_l_moment T.u_l_moment.kp T.b_l_moment fnM_arity (sa_cons (se_var 0 (pv 0)) sa_nil)) sa_nil))) sa_nil)))))))
theorem G_l_one_right : FnG P w K mg base 5 T.f_l_one_right T.d_l_one_right ["_law_pot_here"] F_l_one_right :=
  fnG_mk (k := 4) T.u_l_one_right sc_l_one_right fun cdv A outer s H E hr hgd tk =>
      (sb_cons (ss_par (i := 1) (j := 2) rfl sc_l_one_right.nd rfl rfl (by decide) rfl rfl (sa_cons (se_call (G_l_take T) (hr.mono (by decide)) hgd tk (by rfl) T.g_l_take T.u_l_take.kp T.b_l_take fnM_arity (sa_cons (se_var 0 (pv 0)) (sa_cons (se_call (G_l_of T) (hr.mono (by decide)) hgd tk (by rfl) T.g_l_of T.u_l_of.kp T.b_l_of fnM_arity (sa_cons (se_var 0 (pv 0)) (sa_cons (se_lst (sa_cons se_int (sa_cons se_int (sa_cons se_int (sa_cons (se_op op_powG o_pow se_int se_int) sa_nil))))) sa_nil))) sa_nil))) (sa_cons (se_call (G_l_of T) (hr.mono (by decide)) hgd tk (by rfl) T.g_l_of T.u_l_of.kp T.b_l_of fnM_arity (sa_cons (se_var 0 (pv 0)) (sa_cons (se_lst (sa_cons se_int (sa_cons se_int (sa_cons se_int (sa_cons se_int (sa_cons (se_call (G_l_take T) (hr.mono (by decide)) hgd tk (by rfl) T.g_l_take T.u_l_take.kp T.b_l_take fnM_arity (sa_cons (se_var 0 (pv 0)) (sa_cons se_int sa_nil))) sa_nil)))))) sa_nil))) sa_nil)) (by rfl))
      (sb_cons (ss_as (se_tup (sa_cons (se_tup (sa_cons (se_var 1 (pv 1)) (sa_cons (se_var 2 (pv 2)) sa_nil))) (sa_cons (se_call (G_l_of T) (hr.mono (by decide)) hgd tk (by rfl) T.g_l_of T.u_l_of.kp T.b_l_of fnM_arity (sa_cons (se_var 0 (pv 0)) (sa_cons (se_lst (sa_cons se_int (sa_cons se_int (sa_cons se_int (sa_cons se_int (sa_cons (se_var 1 (pv 1)) (sa_cons (se_op op_addAll o_add (se_var 1 (pv 1)) se_int) (sa_cons (se_callB (call_max2 rfl) o_max (by rfl) T.z_max (by decide +kernel) (sa_cons se_int (sa_cons (se_op op_sub o_sub (se_var 1 (pv 1)) se_int) sa_nil))) (sa_cons (se_call (G_l_take T) (hr.mono (by decide)) hgd tk (by rfl) T.g_l_take T.u_l_take.kp T.b_l_take fnM_arity (sa_cons (se_var 0 (pv 0)) (sa_cons se_int sa_nil))) sa_nil))))))))) sa_nil))) sa_nil))) (sg_tup rfl (sgs_cons (sg_name (pg_name (i := 3) sc_l_one_right.nd rfl (by first | exact Or.inl rfl | exact Or.inr rfl))) (sgs_cons (sg_name (pg_name (i := 4) sc_l_one_right.nd rfl (by first | exact Or.inl rfl | exact Or.inr rfl))) sgs_nil gT0_noerr) (gTc_noerr gN_noerr gT0_noerr)) (by rfl) (gTc_len (gTc_len gT0_len)) (gTc_noerr gN_noerr (gTc_noerr gN_noerr gT0_noerr))))
      (sb_cons (ss_if (st_cmp (op_neA hr.units) o_ne (se_callB (call_repr hr hgd) o_repr (by rfl) T.z_repr (by decide +kernel) (sa_cons (se_call (G_later T) (hr.mono (by decide)) hgd tk (by rfl) T.g_later T.u_later.kp T.b_later fnM_arity (sa_cons (se_var 3 (pv 3)) (sa_cons (se_var 4 (pv 4)) sa_nil))) sa_nil)) (se_callB (call_repr hr hgd) o_repr (by rfl) T.z_repr (by decide +kernel) (sa_cons (se_call (G_l_later T) (hr.mono (by decide)) hgd tk (by rfl) T.g_l_later T.u_l_later.kp T.b_l_later fnM_arity (sa_cons (se_var 3 (pv 3)) (sa_cons (se_var 4 (pv 4)) sa_nil))) sa_nil)) (nomark _)) (sb_one (ss_ret se_bl)) sb_nil)
      (sb_cons (ss_if (st_cmp (op_neA hr.units) o_ne (se_callB (call_repr hr hgd) o_repr (by rfl) T.z_repr (by decide +kernel) (sa_cons (se_callK0 (ix := [1, 0]) (G_later T) (hr.mono (by decide)) hgd tk (by rfl) T.g_later T.u_later.kp (kb_later_delay_stamp T) fnM_arity (sk_cons (se_var 4 (pv 4)) (sk_cons (se_var 3 (pv 3)) sk_nil))) sa_nil)) (se_callB (call_repr hr hgd) o_repr (by rfl) T.z_repr (by decide +kernel) (sa_cons (se_call (G_l_later T) (hr.mono (by decide)) hgd tk (by rfl) T.g_l_later T.u_l_later.kp T.b_l_later fnM_arity (sa_cons (se_var 3 (pv 3)) (sa_cons (se_var 4 (pv 4)) sa_nil))) sa_nil)) (nomark _)) (sb_one (ss_ret se_bl)) sb_nil)
      (sb_cons (ss_set (i := 5) sc_l_one_right.nd rfl (by first | exact Or.inl rfl | exact Or.inr rfl) (se_call (G_ahead_of T) (hr.mono (by decide)) hgd tk (by rfl) T.g_ahead_of T.u_ahead_of.kp T.b_ahead_of fnM_arity (sa_cons (se_var 3 (pv 3)) (sa_cons (se_var 4 (pv 4)) sa_nil))))
      (sb_cons (ss_if (PW.pt (sw_or (st_cmp (op_neA hr.units) o_ne (se_callB (call_repr hr hgd) o_repr (by rfl) T.z_repr (by decide +kernel) (sa_cons (se_var 5 (pv 5)) sa_nil)) (se_callB (call_repr hr hgd) o_repr (by rfl) T.z_repr (by decide +kernel) (sa_cons (se_call (G_l_ahead T) (hr.mono (by decide)) hgd tk (by rfl) T.g_l_ahead T.u_l_ahead.kp T.b_l_ahead fnM_arity (sa_cons (se_var 3 (pv 3)) (sa_cons (se_var 4 (pv 4)) sa_nil))) sa_nil)) (nomark _)) (sw_or1 (st_cmp (op_neA hr.units) o_ne (se_callB (call_repr hr hgd) o_repr (by rfl) T.z_repr (by decide +kernel) (sa_cons (se_callK0 (ix := [1, 0]) (G_ahead_of T) (hr.mono (by decide)) hgd tk (by rfl) T.g_ahead_of T.u_ahead_of.kp (kb_ahead_of_delay_stamp T) fnM_arity (sk_cons (se_var 4 (pv 4)) (sk_cons (se_var 3 (pv 3)) sk_nil))) sa_nil)) (se_callB (call_repr hr hgd) o_repr (by rfl) T.z_repr (by decide +kernel) (sa_cons (se_var 5 (pv 5)) sa_nil)) (nomark _))))) (sb_one (ss_ret se_bl)) sb_nil)
      (sb_cons (ss_set (i := 6) sc_l_one_right.nd rfl (by first | exact Or.inl rfl | exact Or.inr rfl) (se_op op_addAll o_add (se_op op_addAll o_add (se_call (G_l_near T) (hr.mono (by decide)) hgd tk (by rfl) T.g_l_near T.u_l_near.kp T.b_l_near fnM_arity (sa_cons (se_tup (sa_cons (se_var 1 (pv 1)) (sa_cons (se_callB (call_min2 rfl) o_min (by rfl) T.z_min (by decide +kernel) (sa_cons (se_var 2 (pv 2)) (sa_cons se_int sa_nil))) sa_nil))) sa_nil)) (se_call (G_l_near T) (hr.mono (by decide)) hgd tk (by rfl) T.g_l_near T.u_l_near.kp T.b_l_near fnM_arity (sa_cons (se_call (G_l_ahead T) (hr.mono (by decide)) hgd tk (by rfl) T.g_l_ahead T.u_l_ahead.kp T.b_l_ahead fnM_arity (sa_cons (se_var 3 (pv 3)) (sa_cons (se_var 4 (pv 4)) sa_nil))) sa_nil))) (se_lst (sa_cons (se_tup (sa_cons se_int (sa_cons se_int sa_nil))) (sa_cons (se_tup (sa_cons se_int (sa_cons se_int sa_nil))) sa_nil)))))
      (sb_one (ss_ret (se_callB (cr_all rfl) o_all (by rfl) T.z_all (by decide +kernel) (sa_cons (se_lc (own := [("_law_one", 7)]) rfl sc_l_one_right.nd (si_any (se_var 6 (pv 6))) (blkOk_by (N := n_l_one_right) (sc := defScope (topS 21)) (by decide +kernel)) (fun _ _ _ _ _ => (sg_name (pg_name (i := 7) sc_l_one_right.nd rfl (by first | exact Or.inl rfl | exact Or.inr rfl)))) (fun _ _ _ _ _ => pts0) (fun _ _ _ _ _ => (se_cmp (op_eqA hr.units) o_eq (se_cmp (op_geA hr.units0) o_ord (se_call (G_l_later T) (hr.mono (by decide)) hgd takes0 (by rfl) T.g_l_later T.u_l_later.kp T.b_l_later fnM_arity (sa_cons (se_var 7 (pv 7)) (sa_cons (se_var 4 (pv 4)) sa_nil))) (se_var 3 (pv 3)) (nomark _)) (se_cmp (op_geA hr.units0) o_ord (se_var 7 (pv 7)) (se_var 5 (pv 5)) (nomark _)) (nomark _)))) sa_nil)))))))))))
theorem G_l_pair_right : FnG P w K mg base 5 T.f_l_pair_right T.d_l_pair_right ["_law_one", "_law_other", "_law_gap"] F_l_pair_right :=
  fnG_mk (k := 4) T.u_l_pair_right sc_l_pair_right fun cdv A outer s H E hr hgd tk =>
      (sb_cons (ss_par (i := 3) (j := 4) rfl sc_l_pair_right.nd rfl rfl (by decide) rfl rfl (sa_cons (se_call (G_later T) (hr.mono (by decide)) hgd tk (by rfl) T.g_later T.u_later.kp T.b_later fnM_arity (sa_cons (se_var 0 (pv 0)) (sa_cons (se_var 2 (pv 2)) sa_nil))) (sa_cons (se_call (G_later T) (hr.mono (by decide)) hgd tk (by rfl) T.g_later T.u_later.kp T.b_later fnM_arity (sa_cons (se_var 1 (pv 1)) (sa_cons (se_var 2 (pv 2)) sa_nil))) sa_nil)) (by rfl))
      (sb_cons (ss_if (PW.pt (sw_or (st_not (st_of (se_call (G_is_stamp T) (hr.mono (by decide)) hgd tk (by rfl) T.g_is_stamp T.u_is_stamp.kp T.b_is_stamp fnM_arity (sa_cons (se_var 3 (pv 3)) sa_nil)))) (sw_or (st_not (st_of (se_call (G_is_stamp T) (hr.mono (by decide)) hgd tk (by rfl) T.g_is_stamp T.u_is_stamp.kp T.b_is_stamp fnM_arity (sa_cons (se_var 4 (pv 4)) sa_nil)))) (sw_or (st_cmp (op_leA hr.units0) o_ord (se_var 3 (pv 3)) (se_var 0 (pv 0)) (nomark _)) (sw_or1 (PW.pt (sw_and (st_cmp (op_leA hr.units0) o_ord (se_var 0 (pv 0)) (se_var 1 (pv 1)) (nomark _)) (sw_and1 (st_cmp (op_gtA hr.units0) o_ord (se_var 3 (pv 3)) (se_var 4 (pv 4)) (nomark _)))))))))) (sb_one (ss_ret se_bl)) sb_nil)
      (sb_cons (ss_if (st_cmp (op_neA hr.units) o_ne (se_cmp (op_geA hr.units0) o_ord (se_var 3 (pv 3)) (se_var 1 (pv 1)) (nomark _)) (se_cmp (op_geA hr.units0) o_ord (se_var 0 (pv 0)) (se_call (G_ahead_of T) (hr.mono (by decide)) hgd tk (by rfl) T.g_ahead_of T.u_ahead_of.kp T.b_ahead_of fnM_arity (sa_cons (se_var 1 (pv 1)) (sa_cons (se_var 2 (pv 2)) sa_nil))) (nomark _)) (nomark _)) (sb_one (ss_ret se_bl)) sb_nil)
      (sb_one (ss_ret (se_and (se_cmp (op_leA hr.units0) o_ord (se_call (G_ahead_of T) (hr.mono (by decide)) hgd tk (by rfl) T.g_ahead_of T.u_ahead_of.kp T.b_ahead_of fnM_arity (sa_cons (se_var 3 (pv 3)) (sa_cons (se_var 2 (pv 2)) sa_nil))) (se_var 0 (pv 0)) (nomark _)) (se_one (se_cmp (op_eqA hr.units) o_eq (se_call (G_later T) (hr.mono (by decide)) hgd tk (by rfl) T.g_later T.u_later.kp T.b_later fnM_arity (sa_cons (se_call (G_ahead_of T) (hr.mono (by decide)) hgd tk (by rfl) T.g_ahead_of T.u_ahead_of.kp T.b_ahead_of fnM_arity (sa_cons (se_var 3 (pv 3)) (sa_cons (se_var 2 (pv 2)) sa_nil))) (sa_cons (se_var 2 (pv 2)) sa_nil))) (se_var 3 (pv 3)) (nomark _)))))))))
theorem G_l_right : FnG P w K mg base 6 T.f_l_right T.d_l_right ["_law_pot_here"] F_l_right :=
  fnG_mk (k := 5) T.u_l_right sc_l_right fun cdv A outer s H E hr hgd tk =>
      (sb_cons (ss_set (i := 1) sc_l_right.nd rfl (by first | exact Or.inl rfl | exact Or.inr rfl) (se_call (G_l_moment T) (hr.mono (by decide)) hgd tk (by rfl) T.g_l_moment T.u_l_moment.kp T.b_l_moment fnM_arity (sa_cons (se_var 0 (pv 0)) sa_nil)))
      (sb_cons (ss_set (i := 2) sc_l_right.nd rfl (by first | exact Or.inl rfl | exact Or.inr rfl) (se_call (G_l_beside T) (hr.mono (by decide)) hgd tk (by rfl) T.g_l_beside T.u_l_beside.kp T.b_l_beside fnM_arity (sa_cons (se_var 0 (pv 0)) (sa_cons (se_var 1 (pv 1)) sa_nil))))
      (sb_cons (ss_par (i := 3) (j := 4) rfl sc_l_right.nd rfl rfl (by decide) rfl rfl (sa_cons (se_call (G_l_of T) (hr.mono (by decide)) hgd tk (by rfl) T.g_l_of T.u_l_of.kp T.b_l_of fnM_arity (sa_cons (se_var 0 (pv 0)) (sa_cons (se_lst (sa_cons se_int (sa_cons se_int (sa_cons se_int (sa_cons se_int (sa_cons (se_call (G_l_take T) (hr.mono (by decide)) hgd tk (by rfl) T.g_l_take T.u_l_take.kp T.b_l_take fnM_arity (sa_cons (se_var 0 (pv 0)) (sa_cons se_int sa_nil))) sa_nil)))))) sa_nil))) (sa_cons (se_call (G_l_of T) (hr.mono (by decide)) hgd tk (by rfl) T.g_l_of T.u_l_of.kp T.b_l_of fnM_arity (sa_cons (se_var 0 (pv 0)) (sa_cons (se_lst (sa_cons se_int (sa_cons se_int (sa_cons (se_call (G_l_take T) (hr.mono (by decide)) hgd tk (by rfl) T.g_l_take T.u_l_take.kp T.b_l_take fnM_arity (sa_cons (se_var 0 (pv 0)) (sa_cons se_int sa_nil))) sa_nil)))) sa_nil))) sa_nil)) (by rfl))
      (sb_cons (ss_if (PW.pt (sw_or (st_not (st_of (se_call (G_l_pair_right T) (hr.mono (by decide)) hgd tk (by rfl) T.g_l_pair_right T.u_l_pair_right.kp T.b_l_pair_right fnM_arity (sa_cons (se_var 1 (pv 1)) (sa_cons (se_var 2 (pv 2)) (sa_cons (se_var 3 (pv 3)) sa_nil)))))) (sw_or1 (st_not (st_of (se_call (G_l_pair_right T) (hr.mono (by decide)) hgd tk (by rfl) T.g_l_pair_right T.u_l_pair_right.kp T.b_l_pair_right fnM_arity (sa_cons (se_var 2 (pv 2)) (sa_cons (se_var 1 (pv 1)) (sa_cons (se_var 3 (pv 3)) sa_nil))))))))) (sb_one (ss_ret se_bl)) sb_nil)
      (sb_cons (ss_if (st_cmp (op_gtA hr.units0) o_ord (se_call (G_later T) (hr.mono (by decide)) hgd tk (by rfl) T.g_later T.u_later.kp T.b_later fnM_arity (sa_cons (se_var 1 (pv 1)) (sa_cons (se_var 3 (pv 3)) sa_nil))) (se_call (G_later T) (hr.mono (by decide)) hgd tk (by rfl) T.g_later T.u_later.kp T.b_later fnM_arity (sa_cons (se_var 1 (pv 1)) (sa_cons (se_op op_addAll o_add (se_var 3 (pv 3)) (se_var 4 (pv 4))) sa_nil))) (nomark _)) (sb_one (ss_ret se_bl)) sb_nil)
      (sb_cons (ss_set (i := 5) sc_l_right.nd rfl (by first | exact Or.inl rfl | exact Or.inr rfl) (se_call (G_later T) (hr.mono (by decide)) hgd tk (by rfl) T.g_later T.u_later.kp T.b_later fnM_arity (sa_cons (se_call (G_later T) (hr.mono (by decide)) hgd tk (by rfl) T.g_later T.u_later.kp T.b_later fnM_arity (sa_cons (se_var 1 (pv 1)) (sa_cons (se_var 3 (pv 3)) sa_nil))) (sa_cons (se_var 4 (pv 4)) sa_nil))))
      (sb_one (ss_ret (se_and (se_cmp (op_geA hr.units0) o_ord (se_var 5 (pv 5)) (se_call (G_later T) (hr.mono (by decide)) hgd tk (by rfl) T.g_later T.u_later.kp T.b_later fnM_arity (sa_cons (se_var 1 (pv 1)) (sa_cons (se_op op_addAll o_add (se_var 3 (pv 3)) (se_var 4 (pv 4))) sa_nil))) (nomark _)) (se_one (se_or (se_cmp (op_eqA hr.units) o_eq (se_var 3 (pv 3)) se_int (nomark _)) (se_or (se_cmp (op_eqA hr.units) o_eq (se_var 4 (pv 4)) se_int (nomark _)) (se_one (se_cmp (op_eqA hr.units) o_eq (se_var 5 (pv 5)) (se_call (G_later T) (hr.mono (by decide)) hgd tk (by rfl) T.g_later T.u_later.kp T.b_later fnM_arity (sa_cons (se_var 1 (pv 1)) (sa_cons (se_op op_addAll o_add (se_var 3 (pv 3)) (se_var 4 (pv 4))) sa_nil))) (nomark _)))))))))))))))
theorem G_law : FnG P w K mg base 7 T.f_law T.d_law ["_law_script"] F_law :=
  fnG_mk (k := 6) T.u_law sc_law fun cdv A outer s H E hr hgd tk =>
      (sb_cons (ss_for (passes_of rfl) rfl (si_range1 (by rfl) T.z_range (sa_cons (se_callB (call_max2 rfl) o_max (by rfl) T.z_max (by decide +kernel) (sa_cons se_int (sa_cons (se_callB (call_min2 rfl) o_min (by rfl) T.z_min (by decide +kernel) (sa_cons se_int (sa_cons (se_callB call_lenAll o_len (by rfl) T.z_len (by decide +kernel) (sa_cons (se_var 0 (pv 0)) sa_nil)) sa_nil))) sa_nil))) sa_nil)) (sg_name (pg_name (i := 1) sc_law.nd rfl (by first | exact Or.inl rfl | exact Or.inr rfl))) (sb_cons (ss_set (i := 2) sc_law.nd rfl (by first | exact Or.inl rfl | exact Or.inr rfl) (se_call (G_l_pot T) (hr.mono (by decide)) hgd tk (by rfl) T.g_l_pot T.u_l_pot.kp T.b_l_pot fnM_arity (sa_cons (se_var 0 (pv 0)) (sa_cons (se_var 1 (pv 1)) sa_nil))))
      (sb_one (ss_if (PW.pt (sw_or (st_not (st_of (se_callB (cr_all rfl) o_all (by rfl) T.z_all (by decide +kernel) (sa_cons (se_lc (own := [("_law_turn", 3)]) rfl sc_law.nd (si_range1 (by rfl) T.z_range (sa_cons se_int sa_nil)) (blkOk_by (N := n_law) (sc := defScope (topS 24)) (by decide +kernel)) (fun _ _ _ _ _ => (sg_name (pg_name (i := 3) sc_law.nd rfl (by first | exact Or.inl rfl | exact Or.inr rfl)))) (fun _ _ _ _ _ => pts0) (fun _ _ _ _ _ => (se_call (G_l_one_right T) (hr.mono (by decide)) hgd takes0 (by rfl) T.g_l_one_right T.u_l_one_right.kp T.b_l_one_right fnM_arity (sa_cons (se_var 2 (pv 2)) sa_nil)))) sa_nil)))) (sw_or1 (st_not (st_of (se_callB (cr_all rfl) o_all (by rfl) T.z_all (by decide +kernel) (sa_cons (se_lc (own := [("_law_turn", 3)]) rfl sc_law.nd (si_range1 (by rfl) T.z_range (sa_cons se_int sa_nil)) (blkOk_by (N := n_law) (sc := defScope (topS 24)) (by decide +kernel)) (fun _ _ _ _ _ => (sg_name (pg_name (i := 3) sc_law.nd rfl (by first | exact Or.inl rfl | exact Or.inr rfl)))) (fun _ _ _ _ _ => pts0) (fun _ _ _ _ _ => (se_call (G_l_right T) (hr.mono (by decide)) hgd takes0 (by rfl) T.g_l_right T.u_l_right.kp T.b_l_right fnM_arity (sa_cons (se_var 2 (pv 2)) sa_nil)))) sa_nil))))))) (sb_one (ss_ret se_bl)) sb_nil))))
      (sb_one (ss_ret se_bl)))
end
theorem all_mk {K : PySem.W.Frag} {h : Heap} {mg : Str → Option Value} (X : K.In h) (G : h.Ns mainGlobals mg)
    {f_is_count : Addr} {od_is_count an_is_count : Option Addr} {sl_is_count : Array (Option Value)} {oc_is_count kV_is_count dc_is_count pm_is_count cd_is_count ct_is_count : Value}
    (a_is_count : PySem.W.nsIn K mainGlobals "is_count" = some (some (.ref f_is_count))) (l_is_count : K.lookup f_is_count = some ⟨oc_is_count, od_is_count, .func (PySem.W.fnOf "is_count" "is_count" (defArgs (topS 6)) (defBody (topS 6)) (defScope (topS 6)) .none kV_is_count dc_is_count pm_is_count an_is_count cd_is_count ct_is_count), sl_is_count⟩)
    (k1_is_count : PySem.W.codeIn K cd_is_count "is_count" = true) (k2_is_count : PySem.W.keepIn K (.ref f_is_count) = true)
    {f_is_stamp : Addr} {od_is_stamp an_is_stamp : Option Addr} {sl_is_stamp : Array (Option Value)} {oc_is_stamp kV_is_stamp dc_is_stamp pm_is_stamp cd_is_stamp ct_is_stamp : Value}
    (a_is_stamp : PySem.W.nsIn K mainGlobals "is_stamp" = some (some (.ref f_is_stamp))) (l_is_stamp : K.lookup f_is_stamp = some ⟨oc_is_stamp, od_is_stamp, .func (PySem.W.fnOf "is_stamp" "is_stamp" (defArgs (topS 7)) (defBody (topS 7)) (defScope (topS 7)) .none kV_is_stamp dc_is_stamp pm_is_stamp an_is_stamp cd_is_stamp ct_is_stamp), sl_is_stamp⟩)
    (k1_is_stamp : PySem.W.codeIn K cd_is_stamp "is_stamp" = true) (k2_is_stamp : PySem.W.keepIn K (.ref f_is_stamp) = true)
    {f_later_of : Addr} {od_later_of an_later_of : Option Addr} {sl_later_of : Array (Option Value)} {oc_later_of kV_later_of dc_later_of pm_later_of cd_later_of ct_later_of : Value}
    (a_later_of : PySem.W.nsIn K mainGlobals "later_of" = some (some (.ref f_later_of))) (l_later_of : K.lookup f_later_of = some ⟨oc_later_of, od_later_of, .func (PySem.W.fnOf "later_of" "later_of" (defArgs (topS 8)) (defBody (topS 8)) (defScope (topS 8)) .none kV_later_of dc_later_of pm_later_of an_later_of cd_later_of ct_later_of), sl_later_of⟩)
    (k1_later_of : PySem.W.codeIn K cd_later_of "later_of" = true) (k2_later_of : PySem.W.keepIn K (.ref f_later_of) = true)
    {f_check_both : Addr} {od_check_both an_check_both : Option Addr} {sl_check_both : Array (Option Value)} {oc_check_both kV_check_both dc_check_both pm_check_both cd_check_both ct_check_both : Value}
    (a_check_both : PySem.W.nsIn K mainGlobals "check_both" = some (some (.ref f_check_both))) (l_check_both : K.lookup f_check_both = some ⟨oc_check_both, od_check_both, .func (PySem.W.fnOf "check_both" "check_both" (defArgs (topS 9)) (defBody (topS 9)) (defScope (topS 9)) .none kV_check_both dc_check_both pm_check_both an_check_both cd_check_both ct_check_both), sl_check_both⟩)
    (k1_check_both : PySem.W.codeIn K cd_check_both "check_both" = true) (k2_check_both : PySem.W.keepIn K (.ref f_check_both) = true)
    {f_later : Addr} {od_later an_later : Option Addr} {sl_later : Array (Option Value)} {oc_later kV_later dc_later pm_later cd_later ct_later : Value}
    (a_later : PySem.W.nsIn K mainGlobals "later" = some (some (.ref f_later))) (l_later : K.lookup f_later = some ⟨oc_later, od_later, .func (PySem.W.fnOf "later" "later" (defArgs (topS 10)) (defBody (topS 10)) (defScope (topS 10)) .none kV_later dc_later pm_later an_later cd_later ct_later), sl_later⟩)
    (k1_later : PySem.W.codeIn K cd_later "later" = true) (k2_later : PySem.W.keepIn K (.ref f_later) = true)
    {f_ahead_of : Addr} {od_ahead_of an_ahead_of : Option Addr} {sl_ahead_of : Array (Option Value)} {oc_ahead_of kV_ahead_of dc_ahead_of pm_ahead_of cd_ahead_of ct_ahead_of : Value}
    (a_ahead_of : PySem.W.nsIn K mainGlobals "ahead_of" = some (some (.ref f_ahead_of))) (l_ahead_of : K.lookup f_ahead_of = some ⟨oc_ahead_of, od_ahead_of, .func (PySem.W.fnOf "ahead_of" "ahead_of" (defArgs (topS 11)) (defBody (topS 11)) (defScope (topS 11)) .none kV_ahead_of dc_ahead_of pm_ahead_of an_ahead_of cd_ahead_of ct_ahead_of), sl_ahead_of⟩)
    (k1_ahead_of : PySem.W.codeIn K cd_ahead_of "ahead_of" = true) (k2_ahead_of : PySem.W.keepIn K (.ref f_ahead_of) = true)
    {f_l_pot : Addr} {od_l_pot an_l_pot : Option Addr} {sl_l_pot : Array (Option Value)} {oc_l_pot kV_l_pot dc_l_pot pm_l_pot cd_l_pot ct_l_pot : Value}
    (a_l_pot : PySem.W.nsIn K mainGlobals "_law_pot" = some (some (.ref f_l_pot))) (l_l_pot : K.lookup f_l_pot = some ⟨oc_l_pot, od_l_pot, .func (PySem.W.fnOf "_law_pot" "_law_pot" (defArgs (topS 13)) (defBody (topS 13)) (defScope (topS 13)) .none kV_l_pot dc_l_pot pm_l_pot an_l_pot cd_l_pot ct_l_pot), sl_l_pot⟩)
    (k1_l_pot : PySem.W.codeIn K cd_l_pot "_law_pot" = true) (k2_l_pot : PySem.W.keepIn K (.ref f_l_pot) = true)
    {f_l_take : Addr} {od_l_take an_l_take : Option Addr} {sl_l_take : Array (Option Value)} {oc_l_take kV_l_take dc_l_take pm_l_take cd_l_take ct_l_take : Value}
    (a_l_take : PySem.W.nsIn K mainGlobals "_law_take" = some (some (.ref f_l_take))) (l_l_take : K.lookup f_l_take = some ⟨oc_l_take, od_l_take, .func (PySem.W.fnOf "_law_take" "_law_take" (defArgs (topS 14)) (defBody (topS 14)) (defScope (topS 14)) .none kV_l_take dc_l_take pm_l_take an_l_take cd_l_take ct_l_take), sl_l_take⟩)
    (k1_l_take : PySem.W.codeIn K cd_l_take "_law_take" = true) (k2_l_take : PySem.W.keepIn K (.ref f_l_take) = true)
    {f_l_of : Addr} {od_l_of an_l_of : Option Addr} {sl_l_of : Array (Option Value)} {oc_l_of kV_l_of dc_l_of pm_l_of cd_l_of ct_l_of : Value}
    (a_l_of : PySem.W.nsIn K mainGlobals "_law_of" = some (some (.ref f_l_of))) (l_l_of : K.lookup f_l_of = some ⟨oc_l_of, od_l_of, .func (PySem.W.fnOf "_law_of" "_law_of" (defArgs (topS 15)) (defBody (topS 15)) (defScope (topS 15)) .none kV_l_of dc_l_of pm_l_of an_l_of cd_l_of ct_l_of), sl_l_of⟩)
    (k1_l_of : PySem.W.codeIn K cd_l_of "_law_of" = true) (k2_l_of : PySem.W.keepIn K (.ref f_l_of) = true)
    {f_l_moment : Addr} {od_l_moment an_l_moment : Option Addr} {sl_l_moment : Array (Option Value)} {oc_l_moment kV_l_moment dc_l_moment pm_l_moment cd_l_moment ct_l_moment : Value}
    (a_l_moment : PySem.W.nsIn K mainGlobals "_law_moment" = some (some (.ref f_l_moment))) (l_l_moment : K.lookup f_l_moment = some ⟨oc_l_moment, od_l_moment, .func (PySem.W.fnOf "_law_moment" "_law_moment" (defArgs (topS 16)) (defBody (topS 16)) (defScope (topS 16)) .none kV_l_moment dc_l_moment pm_l_moment an_l_moment cd_l_moment ct_l_moment), sl_l_moment⟩)
    (k1_l_moment : PySem.W.codeIn K cd_l_moment "_law_moment" = true) (k2_l_moment : PySem.W.keepIn K (.ref f_l_moment) = true)
    {f_l_beside : Addr} {od_l_beside an_l_beside : Option Addr} {sl_l_beside : Array (Option Value)} {oc_l_beside kV_l_beside dc_l_beside pm_l_beside cd_l_beside ct_l_beside : Value}
    (a_l_beside : PySem.W.nsIn K mainGlobals "_law_beside" = some (some (.ref f_l_beside))) (l_l_beside : K.lookup f_l_beside = some ⟨oc_l_beside, od_l_beside, .func (PySem.W.fnOf "_law_beside" "_law_beside" (defArgs (topS 17)) (defBody (topS 17)) (defScope (topS 17)) .none kV_l_beside dc_l_beside pm_l_beside an_l_beside cd_l_beside ct_l_beside), sl_l_beside⟩)
    (k1_l_beside : PySem.W.codeIn K cd_l_beside "_law_beside" = true) (k2_l_beside : PySem.W.keepIn K (.ref f_l_beside) = true)
    {f_l_later : Addr} {od_l_later an_l_later : Option Addr} {sl_l_later : Array (Option Value)} {oc_l_later kV_l_later dc_l_later pm_l_later cd_l_later ct_l_later : Value}
    (a_l_later : PySem.W.nsIn K mainGlobals "_law_later" = some (some (.ref f_l_later))) (l_l_later : K.lookup f_l_later = some ⟨oc_l_later, od_l_later, .func (PySem.W.fnOf "_law_later" "_law_later" (defArgs (topS 18)) (defBody (topS 18)) (defScope (topS 18)) .none kV_l_later dc_l_later pm_l_later an_l_later cd_l_later ct_l_later), sl_l_later⟩)
    (k1_l_later : PySem.W.codeIn K cd_l_later "_law_later" = true) (k2_l_later : PySem.W.keepIn K (.ref f_l_later) = true)
    {f_l_ahead : Addr} {od_l_ahead an_l_ahead : Option Addr} {sl_l_ahead : Array (Option Value)} {oc_l_ahead kV_l_ahead dc_l_ahead pm_l_ahead cd_l_ahead ct_l_ahead : Value}
    (a_l_ahead : PySem.W.nsIn K mainGlobals "_law_ahead" = some (some (.ref f_l_ahead))) (l_l_ahead : K.lookup f_l_ahead = some ⟨oc_l_ahead, od_l_ahead, .func (PySem.W.fnOf "_law_ahead" "_law_ahead" (defArgs (topS 19)) (defBody (topS 19)) (defScope (topS 19)) .none kV_l_ahead dc_l_ahead pm_l_ahead an_l_ahead cd_l_ahead ct_l_ahead), sl_l_ahead⟩)
    (k1_l_ahead : PySem.W.codeIn K cd_l_ahead "_law_ahead" = true) (k2_l_ahead : PySem.W.keepIn K (.ref f_l_ahead) = true)
    {f_l_near : Addr} {od_l_near an_l_near : Option Addr} {sl_l_near : Array (Option Value)} {oc_l_near kV_l_near dc_l_near pm_l_near cd_l_near ct_l_near : Value}
    (a_l_near : PySem.W.nsIn K mainGlobals "_law_near" = some (some (.ref f_l_near))) (l_l_near : K.lookup f_l_near = some ⟨oc_l_near, od_l_near, .func (PySem.W.fnOf "_law_near" "_law_near" (defArgs (topS 20)) (defBody (topS 20)) (defScope (topS 20)) .none kV_l_near dc_l_near pm_l_near an_l_near cd_l_near ct_l_near), sl_l_near⟩)
    (k1_l_near : PySem.W.codeIn K cd_l_near "_law_near" = true) (k2_l_near : PySem.W.keepIn K (.ref f_l_near) = true)
    {f_l_one_right : Addr} {od_l_one_right an_l_one_right : Option Addr} {sl_l_one_right : Array (Option Value)} {oc_l_one_right kV_l_one_right dc_l_one_right pm_l_one_right cd_l_one_right ct_l_one_right : Value}
    (a_l_one_right : PySem.W.nsIn K mainGlobals "_law_one_right" = some (some (.ref f_l_one_right))) (l_l_one_right : K.lookup f_l_one_right = some ⟨oc_l_one_right, od_l_one_right, .func (PySem.W.fnOf "_law_one_right" "_law_one_right" (defArgs (topS 21)) (defBody (topS 21)) (defScope (topS 21)) .none kV_l_one_right dc_l_one_right pm_l_one_right an_l_one_right cd_l_one_right ct_l_one_right), sl_l_one_right⟩)
    (k1_l_one_right : PySem.W.codeIn K cd_l_one_right "_law_one_right" = true) (k2_l_one_right : PySem.W.keepIn K (.ref f_l_one_right) = true)
    {f_l_pair_right : Addr} {od_l_pair_right an_l_pair_right : Option Addr} {sl_l_pair_right : Array (Option Value)} {oc_l_pair_right kV_l_pair_right dc_l_pair_right pm_l_pair_right cd_l_pair_right ct_l_pair_right : Value}
    (a_l_pair_right : PySem.W.nsIn K mainGlobals "_law_pair_right" = some (some (.ref f_l_pair_right))) (l_l_pair_right : K.lookup f_l_pair_right = some ⟨oc_l_pair_right, od_l_pair_right, .func (PySem.W.fnOf "_law_pair_right" "_law_pair_right" (defArgs (topS 22)) (defBody (topS 22)) (defScope (topS 22)) .none kV_l_pair_right dc_l_pair_right pm_l_pair_right an_l_pair_right cd_l_pair_right ct_l_pair_right), sl_l_pair_right⟩)
    (k1_l_pair_right : PySem.W.codeIn K cd_l_pair_right "_law_pair_right" = true) (k2_l_pair_right : PySem.W.keepIn K (.ref f_l_pair_right) = true)
    {f_l_right : Addr} {od_l_right an_l_right : Option Addr} {sl_l_right : Array (Option Value)} {oc_l_right kV_l_right dc_l_right pm_l_right cd_l_right ct_l_right : Value}
    (a_l_right : PySem.W.nsIn K mainGlobals "_law_right" = some (some (.ref f_l_right))) (l_l_right : K.lookup f_l_right = some ⟨oc_l_right, od_l_right, .func (PySem.W.fnOf "_law_right" "_law_right" (defArgs (topS 23)) (defBody (topS 23)) (defScope (topS 23)) .none kV_l_right dc_l_right pm_l_right an_l_right cd_l_right ct_l_right), sl_l_right⟩)
    (k1_l_right : PySem.W.codeIn K cd_l_right "_law_right" = true) (k2_l_right : PySem.W.keepIn K (.ref f_l_right) = true)
    {f_law : Addr} {od_law an_law : Option Addr} {sl_law : Array (Option Value)} {oc_law kV_law dc_law pm_law cd_law ct_law : Value}
    (a_law : PySem.W.nsIn K mainGlobals "law" = some (some (.ref f_law))) (l_law : K.lookup f_law = some ⟨oc_law, od_law, .func (PySem.W.fnOf "law" "law" (defArgs (topS 24)) (defBody (topS 24)) (defScope (topS 24)) .none kV_law dc_law pm_law an_law cd_law ct_law), sl_law⟩)
    (k1_law : PySem.W.codeIn K cd_law "law" = true) (k2_law : PySem.W.keepIn K (.ref f_law) = true)
    (y_abs : PySem.W.nsIn K mainGlobals "abs" = some none)
    (y_all : PySem.W.nsIn K mainGlobals "all" = some none)
    (y_bool : PySem.W.nsIn K mainGlobals "bool" = some none)
    (y_int : PySem.W.nsIn K mainGlobals "int" = some none)
    (y_isinstance : PySem.W.nsIn K mainGlobals "isinstance" = some none)
    (y_len : PySem.W.nsIn K mainGlobals "len" = some none)
    (y_max : PySem.W.nsIn K mainGlobals "max" = some none)
    (y_min : PySem.W.nsIn K mainGlobals "min" = some none)
    (y_range : PySem.W.nsIn K mainGlobals "range" = some none)
    (y_repr : PySem.W.nsIn K mainGlobals "repr" = some none)
    (y_tuple : PySem.W.nsIn K mainGlobals "tuple" = some none)
    {tt_PARTS : Tok} (y_PARTS : PySem.W.nsIn K mainGlobals "PARTS" = some (some (.int 2 tt_PARTS)))
    (lt : ∀ ns : List Int, ns.length ≤ 63 → ∃ S, F_law [.rls (ns.map D.int)] [] = .ok (.bl true) S) {P : Program} {w : World} {fa : Addr} (hfa : mg "law" = some (.ref fa))
    : ∃ (fd : FuncData) (F : List D → M D), (∀ (s : Shared) (u : Value), BindsTo s fd ⟨[u], []⟩ [("_law_script", u)]) ∧ (∀ ns : List Int, ns.length ≤ 63 → ∃ S, F [.rls (ns.map D.int)] [] = .ok (.bl true) S) ∧
        ∀ base : Heap, K.In base → base.Ns mainGlobals mg → FnG P w K mg base 7 fa fd ["_law_script"] F := by
  have T : Tx K mg := {
    f_is_count := f_is_count, d_is_count := _, u_is_count := fun_mk (st := (topS 6)) l_is_count k1_is_count k2_is_count, g_is_count := PySem.W.mg_of X G a_is_count, b_is_count := (fun_mk (st := (topS 6)) l_is_count k1_is_count k2_is_count).binds (ps := ["value"]) fun _ _ _ _ _ _ us hl => match us, hl with | [_], _ => rfl,
    f_is_stamp := f_is_stamp, d_is_stamp := _, u_is_stamp := fun_mk (st := (topS 7)) l_is_stamp k1_is_stamp k2_is_stamp, g_is_stamp := PySem.W.mg_of X G a_is_stamp, b_is_stamp := (fun_mk (st := (topS 7)) l_is_stamp k1_is_stamp k2_is_stamp).binds (ps := ["value"]) fun _ _ _ _ _ _ us hl => match us, hl with | [_], _ => rfl,
    f_later_of := f_later_of, d_later_of := _, u_later_of := fun_mk (st := (topS 8)) l_later_of k1_later_of k2_later_of, g_later_of := PySem.W.mg_of X G a_later_of, b_later_of := (fun_mk (st := (topS 8)) l_later_of k1_later_of k2_later_of).binds (ps := ["stamp", "delay"]) fun _ _ _ _ _ _ us hl => match us, hl with | [_, _], _ => rfl,
    f_check_both := f_check_both, d_check_both := _, u_check_both := fun_mk (st := (topS 9)) l_check_both k1_check_both k2_check_both, g_check_both := PySem.W.mg_of X G a_check_both, b_check_both := (fun_mk (st := (topS 9)) l_check_both k1_check_both k2_check_both).binds (ps := ["stamp", "delay"]) fun _ _ _ _ _ _ us hl => match us, hl with | [_, _], _ => rfl,
    f_later := f_later, d_later := _, u_later := fun_mk (st := (topS 10)) l_later k1_later k2_later, g_later := PySem.W.mg_of X G a_later, b_later := (fun_mk (st := (topS 10)) l_later k1_later k2_later).binds (ps := ["stamp", "delay"]) fun _ _ _ _ _ _ us hl => match us, hl with | [_, _], _ => rfl,
    f_ahead_of := f_ahead_of, d_ahead_of := _, u_ahead_of := fun_mk (st := (topS 11)) l_ahead_of k1_ahead_of k2_ahead_of, g_ahead_of := PySem.W.mg_of X G a_ahead_of, b_ahead_of := (fun_mk (st := (topS 11)) l_ahead_of k1_ahead_of k2_ahead_of).binds (ps := ["stamp", "delay"]) fun _ _ _ _ _ _ us hl => match us, hl with | [_, _], _ => rfl,
    f_l_pot := f_l_pot, d_l_pot := _, u_l_pot := fun_mk (st := (topS 13)) l_l_pot k1_l_pot k2_l_pot, g_l_pot := PySem.W.mg_of X G a_l_pot, b_l_pot := (fun_mk (st := (topS 13)) l_l_pot k1_l_pot k2_l_pot).binds (ps := ["_law_script", "_law_k"]) fun _ _ _ _ _ _ us hl => match us, hl with | [_, _], _ => rfl,
    f_l_take := f_l_take, d_l_take := _, u_l_take := fun_mk (st := (topS 14)) l_l_take k1_l_take k2_l_take, g_l_take := PySem.W.mg_of X G a_l_take, b_l_take := (fun_mk (st := (topS 14)) l_l_take k1_l_take k2_l_take).binds (ps := ["_law_pot_here", "_law_upto"]) fun _ _ _ _ _ _ us hl => match us, hl with | [_, _], _ => rfl,
    f_l_of := f_l_of, d_l_of := _, u_l_of := fun_mk (st := (topS 15)) l_l_of k1_l_of k2_l_of, g_l_of := PySem.W.mg_of X G a_l_of, b_l_of := (fun_mk (st := (topS 15)) l_l_of k1_l_of k2_l_of).binds (ps := ["_law_pot_here", "_law_some"]) fun _ _ _ _ _ _ us hl => match us, hl with | [_, _], _ => rfl,
    f_l_moment := f_l_moment, d_l_moment := _, u_l_moment := fun_mk (st := (topS 16)) l_l_moment k1_l_moment k2_l_moment, g_l_moment := PySem.W.mg_of X G a_l_moment, b_l_moment := (fun_mk (st := (topS 16)) l_l_moment k1_l_moment k2_l_moment).binds (ps := ["_law_pot_here"]) fun _ _ _ _ _ _ us hl => match us, hl with | [_], _ => rfl,
    f_l_beside := f_l_beside, d_l_beside := _, u_l_beside := fun_mk (st := (topS 17)) l_l_beside k1_l_beside k2_l_beside, g_l_beside := PySem.W.mg_of X G a_l_beside, b_l_beside := (fun_mk (st := (topS 17)) l_l_beside k1_l_beside k2_l_beside).binds (ps := ["_law_pot_here", "_law_one"]) fun _ _ _ _ _ _ us hl => match us, hl with | [_, _], _ => rfl,
    f_l_later := f_l_later, d_l_later := _, u_l_later := fun_mk (st := (topS 18)) l_l_later k1_l_later k2_l_later, g_l_later := PySem.W.mg_of X G a_l_later, b_l_later := (fun_mk (st := (topS 18)) l_l_later k1_l_later k2_l_later).binds (ps := ["_law_moment_here", "_law_gap"]) fun _ _ _ _ _ _ us hl => match us, hl with | [_, _], _ => rfl,
    f_l_ahead := f_l_ahead, d_l_ahead := _, u_l_ahead := fun_mk (st := (topS 19)) l_l_ahead k1_l_ahead k2_l_ahead, g_l_ahead := PySem.W.mg_of X G a_l_ahead, b_l_ahead := (fun_mk (st := (topS 19)) l_l_ahead k1_l_ahead k2_l_ahead).binds (ps := ["_law_moment_here", "_law_gap"]) fun _ _ _ _ _ _ us hl => match us, hl with | [_, _], _ => rfl,
    f_l_near := f_l_near, d_l_near := _, u_l_near := fun_mk (st := (topS 20)) l_l_near k1_l_near k2_l_near, g_l_near := PySem.W.mg_of X G a_l_near, b_l_near := (fun_mk (st := (topS 20)) l_l_near k1_l_near k2_l_near).binds (ps := ["_law_moment_here"]) fun _ _ _ _ _ _ us hl => match us, hl with | [_], _ => rfl,
    f_l_one_right := f_l_one_right, d_l_one_right := _, u_l_one_right := fun_mk (st := (topS 21)) l_l_one_right k1_l_one_right k2_l_one_right, g_l_one_right := PySem.W.mg_of X G a_l_one_right, b_l_one_right := (fun_mk (st := (topS 21)) l_l_one_right k1_l_one_right k2_l_one_right).binds (ps := ["_law_pot_here"]) fun _ _ _ _ _ _ us hl => match us, hl with | [_], _ => rfl,
    f_l_pair_right := f_l_pair_right, d_l_pair_right := _, u_l_pair_right := fun_mk (st := (topS 22)) l_l_pair_right k1_l_pair_right k2_l_pair_right, g_l_pair_right := PySem.W.mg_of X G a_l_pair_right, b_l_pair_right := (fun_mk (st := (topS 22)) l_l_pair_right k1_l_pair_right k2_l_pair_right).binds (ps := ["_law_one", "_law_other", "_law_gap"]) fun _ _ _ _ _ _ us hl => match us, hl with | [_, _, _], _ => rfl,
    f_l_right := f_l_right, d_l_right := _, u_l_right := fun_mk (st := (topS 23)) l_l_right k1_l_right k2_l_right, g_l_right := PySem.W.mg_of X G a_l_right, b_l_right := (fun_mk (st := (topS 23)) l_l_right k1_l_right k2_l_right).binds (ps := ["_law_pot_here"]) fun _ _ _ _ _ _ us hl => match us, hl with | [_], _ => rfl,
    f_law := f_law, d_law := _, u_law := fun_mk (st := (topS 24)) l_law k1_law k2_law, g_law := PySem.W.mg_of X G a_law, b_law := (fun_mk (st := (topS 24)) l_law k1_law k2_law).binds (ps := ["_law_script"]) fun _ _ _ _ _ _ us hl => match us, hl with | [_], _ => rfl,
    z_abs := PySem.W.mg_none_of X G y_abs,
    z_all := PySem.W.mg_none_of X G y_all,
    z_bool := PySem.W.mg_none_of X G y_bool,
    z_int := PySem.W.mg_none_of X G y_int,
    z_isinstance := PySem.W.mg_none_of X G y_isinstance,
    z_len := PySem.W.mg_none_of X G y_len,
    z_max := PySem.W.mg_none_of X G y_max,
    z_min := PySem.W.mg_none_of X G y_min,
    z_range := PySem.W.mg_none_of X G y_range,
    z_repr := PySem.W.mg_none_of X G y_repr,
    z_tuple := PySem.W.mg_none_of X G y_tuple,
    t_PARTS := _, c_PARTS := PySem.W.mg_of X G y_PARTS }
  have e := hfa.symm.trans T.g_law
  cases e
  refine ⟨T.d_law, F_law, fun s u => ?_, lt, fun base _ _ => G_law T⟩
  obtain ⟨oc, od, kV, doc, pm, an, cdv, ct, osl, e, lk, hcd⟩ := T.u_law.ex
  rw [e]
  exact .of_eq rfl
end Lw
namespace Lw
open PySem PySem.Spec PyProof.Rows L2 Fa
local macro_rules | `(tactic| walk_at "ev") => `(tactic| simp only [bK_ok, bK_err, bK_bad, bnd_ap, ret_ap, fail_ap, mVar_ap, vK_some, mC_ap, m1_ap, m2_ap, k2_ap, mNil_ap, mCons_ap, kCons_ap, kCon_ap, mA_ap, mIf_ap, kIf_t, kIf_f, tOf_ap, isBl_ap, tNt_ap, kNt_ap, tAn_ap, kAn_t, kAn_f, tOr_ap, kOr_t, kOr_f, mNot_ap, kNot_ap, mAnd_ap, kAnd_t, kAnd_f, mOr_ap, kOrV_t, kOrV_f,
  sSeq_ap, sK_nx, sK_rt, sK_bk, sK_ct, sK_ex, sK_bad, oK_ok, oK_err, oK_bad, kNx_ap, kRt_ap, sEx_ap, sRet_ap, sRetN_ap, sNx_ap, sBad_ap, sIf_ap, kIfS_t, kIfS_f, gN_ap, gT_ap, gTc_ap, gT0_ap, sAs_ap, kAs_ap, kAs2_ok, sPar_ap, kPar_ap, gSubD_ap, kSub1_ap, kSub2_ap, kSub3_ap, fK_nx, fK_rt, fK_ex, mLM_ap, mRng1_ap, mRng2_ap, mSrc_ap, src_t, src_r,
  fnM_ap, tupD_ap, lstD_ap, le_line, Nat.reduceLeDiff, eq_self,
  add_ii, sub_ii, neg_i, lt_ii, le_ii, gt_ii, ge_ii, isN_n, isN_i, isN_t, isN_s, isN_b, isN_l, abs_i, max_ii, min_ii, int_i, int_b, len_t, len_r, eq_ii, eq_bb, eq_ss,
  List.map_cons, List.map_nil, List.cons_append, List.nil_append, List.replicate_succ, List.replicate_zero, List.length_cons, List.length_nil, Nat.reduceSub, Nat.reduceAdd, Nat.sub_self, Nat.zero_add,
  List.getElem?_cons_succ, List.getElem?_cons_zero, List.set_cons_succ, List.set_cons_zero, Bool.not_true, Bool.not_false, decide_true, decide_false, if_true, if_false, reduceIte, Bool.false_eq_true])
/-! ### drawing -/
def Pot (p : Nat) (S : Sto) (c : Nat) : Prop := ∃ a b k : Int, S[p]? = some (.lst [.int a, .int b, .int k]) ∧ 0 ≤ a ∧ 0 ≤ b ∧ b < 2305843009213693921 ∧ 0 ≤ k ∧ k ≤ (c : Int)
def Grw (p : Nat) (S S' : Sto) : Prop := S.length ≤ S'.length ∧ ∀ i, i ≠ p → i < S.length → S'[i]? = S[i]?
theorem Grw.refl (p : Nat) (S : Sto) : Grw p S S := ⟨Nat.le_refl _, fun _ _ _ => rfl⟩
theorem Grw.trans {p : Nat} {S S1 S2 : Sto} (a : Grw p S S1) (b : Grw p S1 S2) : Grw p S S2 := ⟨Nat.le_trans a.1 b.1, fun i h1 h2 => (b.2 i h1 (Nat.lt_of_lt_of_le h2 a.1)).trans (a.2 i h1 h2)⟩
theorem Grw.app (p : Nat) (S l : Sto) : Grw p S (S ++ l) := ⟨by simp, fun i _ h => List.getElem?_append_left h⟩
theorem Grw.set (p : Nat) (S : Sto) (o : MO) : Grw p S (S.set p o) := ⟨by simp, fun i h _ => List.getElem?_set_ne (Ne.symm h)⟩
theorem Grw.at {p i : Nat} {S S' : Sto} {o : MO} (g : Grw p S S') (h : i ≠ p) (e : S[i]? = some o) : S'[i]? = some o := (g.2 i h (List.getElem?_eq_some_iff.mp e).1).trans e
theorem Pot.mono {p : Nat} {S : Sto} {c c' : Nat} (h : Pot p S c) (hc : c ≤ c') : Pot p S c' := by
  obtain ⟨a, b, k, e, h1, h2, h3, h4, h5⟩ := h
  exact ⟨a, b, k, e, h1, h2, h3, h4, by omega⟩
theorem Pot.app {p : Nat} {S : Sto} {c : Nat} (h : Pot p S c) (l : Sto) : Pot p (S ++ l) c := by
  obtain ⟨a, b, k, e, r⟩ := h
  exact ⟨a, b, k, at_old e, r⟩
theorem Pot.lt {p : Nat} {S : Sto} {c : Nat} (h : Pot p S c) : p < S.length := by
  obtain ⟨a, b, k, e, r⟩ := h
  exact (List.getElem?_eq_some_iff.mp e).1
theorem Pot.off {p n : Nat} {S : Sto} {c : Nat} {o : MO} (h : Pot p S c) (hn : n ≠ p) : Pot p (S.set n o) c := by
  obtain ⟨a, b, k, e, r⟩ := h
  exact ⟨a, b, k, by rw [List.getElem?_set_ne hn]; exact e, r⟩
theorem mulC_l {i j : Int} (h1 : -18446744073709551616 < i) (h2 : i < 18446744073709551616) : mulC i j = true := by
  unfold mulC
  rw [decide_eq_true (show -(2 ^ 64) < i by omega), decide_eq_true (show i < 2 ^ 64 by omega)]
  rfl
theorem mulC_r {i j : Int} (h1 : -18446744073709551616 < j) (h2 : j < 18446744073709551616) : mulC i j = true := by
  unfold mulC
  rw [decide_eq_true (show -(2 ^ 64) < j by omega), decide_eq_true (show j < 2 ^ 64 by omega)]
  simp
theorem modC_p {i j : Int} (h : 0 < j) : modC i j = true := by
  unfold modC
  exact decide_eq_true (by omega)
theorem divC_p {i j : Int} (h : 0 < j) (h2 : j < 1073741824) : divC i j = true := by
  unfold divC
  rw [decide_eq_true (show j ≠ 0 by omega), decide_eq_true (show j.natAbs < 1073741824 by omega)]
  rfl
theorem fmod_r (a : Int) {n : Int} (h : 0 < n) : 0 ≤ a.fmod n ∧ a.fmod n < n := by
  rw [Int.fmod_eq_emod_of_nonneg _ (by omega)]
  exact ⟨Int.emod_nonneg _ (by omega), Int.emod_lt_of_pos _ h⟩
theorem fdiv_r {a n : Int} (ha : 0 ≤ a) (h : 0 < n) : 0 ≤ a.fdiv n := by
  rw [Int.fdiv_eq_ediv_of_nonneg _ (by omega)]
  exact Int.ediv_nonneg ha (by omega)
theorem powC_3 {i : Int} (h1 : -18446744073709551616 < i) (h2 : i < 18446744073709551616) : powC i 3 = true := by
  unfold powC
  have := intBits_le_64 (k := i) (by omega) (by omega)
  rw [decide_eq_true (show (0 : Int) ≤ 3 by decide), decide_eq_true (show (Builtin.Int.intBits i : Int) * 3 ≤ 2 ^ 27 by omega)]
  rfl
abbrev primes : List D := [.int 2147483647, .int 2147483629, .int 2147483587, .int 2147483579, .int 2147483563]
theorem prime_at {j : Int} (h0 : 0 ≤ j) (h5 : j < 5) : ∃ q : Int, atI primes j = some (.int q) ∧ 0 < q ∧ q < 2147483648 := by
  have : j = 0 ∨ j = 1 ∨ j = 2 ∨ j = 3 ∨ j = 4 := by omega
  rcases this with rfl | rfl | rfl | rfl | rfl
  · exact ⟨2147483647, rfl, by decide, by decide⟩
  · exact ⟨2147483629, rfl, by decide, by decide⟩
  · exact ⟨2147483587, rfl, by decide, by decide⟩
  · exact ⟨2147483579, rfl, by decide, by decide⟩
  · exact ⟨2147483563, rfl, by decide, by decide⟩
theorem take_ok {p : Nat} {S : Sto} {c : Nat} {n : Int} (hp : Pot p S c) (hc : c ≤ 1000000) (h0 : 0 < n) (h1 : n < 1073741824) : ∃ v S', F_l_take [.loc p, .int n] S = .ok (.int v) S' ∧ 0 ≤ v ∧ v < n ∧ Pot p S' (c + 1) ∧ Grw p S S' := by
  obtain ⟨a, b, k, e, ha, hb0, hb1, hk0, hk1⟩ := hp
  have hlt := (List.getElem?_eq_some_iff.mp e).1
  have x0 : ixD (.loc p) (.int 0) S = .ok (.int a) S := ix_l S e rfl
  have x2 : ixD (.loc p) (.int 2) S = .ok (.int k) S := ix_l S e rfl
  by_cases h : 0 < a
  · refine ⟨a.fmod n, S.set p (.lst [.int (a.fdiv n), .int b, .int k]), ?_, (fmod_r a h0).1, (fmod_r a h0).2, ⟨a.fdiv n, b, k, ?_, fdiv_r ha h0, hb0, hb1, hk0, by omega⟩, Grw.set _ _ _⟩
    · unfold F_l_take
      have hd := decide_eq_true h
      have m1 : modD (.int a) (.int n) S = .ok (.int (a.fmod n)) S := mod_ii _ _ _ (modC_p h0)
      have m2' : fdivD (.int a) (.int n) S = .ok (.int (a.fdiv n)) S := fdiv_ii _ _ _ (divC_p h0 h1)
      have s1 : setD (.loc p) (.int 0) (.int (a.fdiv n)) S = .ok () (S.set p (.lst [.int (a.fdiv n), .int b, .int k])) := set_l (j := 0) S _ e rfl
      repeat (first | walk_at "ev" | simp only [x0, hd, m1, m2', s1])
    · rw [List.getElem?_set_self hlt]
  · have S1e : (S.set p (.lst [.int a, .int b, .int (k + 1)]))[p]? = some (.lst [.int a, .int b, .int (k + 1)]) := List.getElem?_set_self hlt
    generalize hS1 : S.set p (.lst [.int a, .int b, .int (k + 1)]) = S1 at S1e
    have s1 : setD (.loc p) (.int 2) (.int (k + 1)) S = .ok () S1 := by rw [← hS1]; exact set_l (j := 2) S _ e rfl
    obtain ⟨q, hq, q0, q1⟩ := prime_at (fmod_r (k + 1) (n := 5) (by decide)).1 (fmod_r (k + 1) (n := 5) (by decide)).2
    have S2e : (S1 ++ [.lst primes])[p]? = some (.lst [.int a, .int b, .int (k + 1)]) := at_old S1e
    have S2n : (S1 ++ [.lst primes])[S1.length]? = some (.lst primes) := at_end _ _
    generalize hS2 : S1 ++ [.lst primes] = S2 at S2e S2n
    have y2 : ixD (.loc p) (.int 2) S2 = .ok (.int (k + 1)) S2 := ix_l S2 S2e rfl
    have y1 : ixD (.loc p) (.int 1) S2 = .ok (.int b) S2 := ix_l S2 S2e rfl
    have yq : ixD (.loc S1.length) (.int ((k + 1).fmod 5)) S2 = .ok (.int q) S2 := ix_l S2 S2n hq
    have kk0 : 0 ≤ (k + 1) * (k + 1) := Int.mul_nonneg (by omega) (by omega)
    have kk1 : (k + 1) * (k + 1) ≤ 1000001 * 1000001 := Int.mul_le_mul (by omega) (by omega) (by omega) (by omega)
    have ass : 99907 * (k + 1) * (k + 1) = 99907 * ((k + 1) * (k + 1)) := Int.mul_assoc _ _ _
    generalize hB : b + 99907 * (k + 1) * (k + 1) + 53 = B
    have B0 : -18446744073709551616 < B := by rw [← hB, ass]; omega
    have B1 : B < 18446744073709551616 := by rw [← hB, ass]; omega
    obtain ⟨m0, m1⟩ := fmod_r (B ^ 3) q0
    generalize hm : (B ^ 3).fmod q = m at m0 m1
    generalize hm2 : (m * (m.fmod 10007 + 89 * (k + 1))).fmod 2305843009213693907 = m2
    obtain ⟨v0, v1⟩ := fmod_r (m2.fdiv 103) h0
    refine ⟨_, S2, ?_, v0, v1, ⟨a, b, k + 1, S2e, ha, hb0, hb1, by omega, by omega⟩, ?_⟩
    · unfold F_l_take
      have hd := decide_eq_false h
      have z0 : modD (.int (k + 1)) (.int 5) S2 = .ok (.int ((k + 1).fmod 5)) S2 := mod_ii _ _ _ (modC_p (by decide))
      have z1 : mulD (.int 99907) (.int (k + 1)) S2 = .ok (.int (99907 * (k + 1))) S2 := mul_ii _ _ _ (mulC_l (by decide) (by decide))
      have z2 : mulD (.int (99907 * (k + 1))) (.int (k + 1)) S2 = .ok (.int (99907 * (k + 1) * (k + 1))) S2 := mul_ii _ _ _ (mulC_r (by omega) (by omega))
      have z3 : powD (.int B) (.int 3) S2 = .ok (.int (B ^ 3)) S2 := pow_ii _ _ _ (powC_3 B0 B1)
      have z4 : modD (.int (B ^ 3)) (.int q) S2 = .ok (.int m) S2 := by rw [← hm]; exact mod_ii _ _ _ (modC_p q0)
      have z5 : modD (.int m) (.int 10007) S2 = .ok (.int (m.fmod 10007)) S2 := mod_ii _ _ _ (modC_p (by decide))
      have z6 : mulD (.int 89) (.int (k + 1)) S2 = .ok (.int (89 * (k + 1))) S2 := mul_ii _ _ _ (mulC_l (by decide) (by decide))
      have z7 : mulD (.int m) (.int (m.fmod 10007 + 89 * (k + 1))) S2 = .ok (.int (m * (m.fmod 10007 + 89 * (k + 1)))) S2 := mul_ii _ _ _ (mulC_l (by omega) (by omega))
      have z8 : modD (.int (m * (m.fmod 10007 + 89 * (k + 1)))) (.int 2305843009213693907) S2 = .ok (.int m2) S2 := by rw [← hm2]; exact mod_ii _ _ _ (modC_p (by decide))
      have z9 : fdivD (.int m2) (.int 103) S2 = .ok (.int (m2.fdiv 103)) S2 := fdiv_ii _ _ _ (divC_p (by decide) (by decide))
      have za : modD (.int (m2.fdiv 103)) (.int n) S2 = .ok (.int ((m2.fdiv 103).fmod n)) S2 := mod_ii _ _ _ (modC_p h0)
      repeat (first | walk_at "ev" | simp only [x0, hd, x2, s1, hS2, y2, z0, yq, y1, z1, z2, hB, z3, z4, z5, z6, z7, z8, z9, za])
    · rw [← hS2, ← hS1]
      exact (Grw.set p S _).trans (Grw.app p _ _)
end Lw
namespace Lw
open PySem PySem.Spec PyProof.Rows L2 Fa
local macro_rules | `(tactic| walk_at "ev") => `(tactic| simp only [bK_ok, bK_err, bK_bad, bnd_ap, ret_ap, fail_ap, mVar_ap, vK_some, mC_ap, m1_ap, m2_ap, k2_ap, mNil_ap, mCons_ap, kCons_ap, kCon_ap, mA_ap, mIf_ap, kIf_t, kIf_f, tOf_ap, isBl_ap, tNt_ap, kNt_ap, tAn_ap, kAn_t, kAn_f, tOr_ap, kOr_t, kOr_f, mNot_ap, kNot_ap, mAnd_ap, kAnd_t, kAnd_f, mOr_ap, kOrV_t, kOrV_f,
  sSeq_ap, sK_nx, sK_rt, sK_bk, sK_ct, sK_ex, sK_bad, oK_ok, oK_err, oK_bad, kNx_ap, kRt_ap, sEx_ap, sRet_ap, sRetN_ap, sNx_ap, sBad_ap, sIf_ap, kIfS_t, kIfS_f, gN_ap, gT_ap, gTc_ap, gT0_ap, sAs_ap, kAs_ap, kAs2_ok, sPar_ap, kPar_ap, gSubD_ap, kSub1_ap, kSub2_ap, kSub3_ap, fK_nx, fK_rt, fK_ex, mLM_ap, mRng1_ap, mRng2_ap, mSrc_ap, src_t, src_r,
  fnM_ap, tupD_ap, lstD_ap, le_line, Nat.reduceLeDiff, eq_self,
  add_ii, sub_ii, neg_i, lt_ii, le_ii, gt_ii, ge_ii, isN_n, isN_i, isN_t, isN_s, isN_b, isN_l, abs_i, max_ii, min_ii, int_i, int_b, len_t, len_r, eq_ii, eq_bb, eq_ss,
  List.map_cons, List.map_nil, List.cons_append, List.nil_append, List.replicate_succ, List.replicate_zero, List.length_cons, List.length_nil, Nat.reduceSub, Nat.reduceAdd, Nat.sub_self, Nat.zero_add,
  List.getElem?_cons_succ, List.getElem?_cons_zero, List.set_cons_succ, List.set_cons_zero, Bool.not_true, Bool.not_false, decide_true, decide_false, if_true, if_false, reduceIte, Bool.false_eq_true])
theorem atI_of {α : Type} {l : List α} {v : Int} (h0 : 0 ≤ v) (h1 : v < l.length) : ∃ d, atI l v = some d ∧ d ∈ l := by
  have hl : v.toNat < l.length := by omega
  refine ⟨l[v.toNat], ?_, List.getElem_mem hl⟩
  have := atI_nat (List.getElem?_eq_getElem hl)
  rwa [Int.toNat_of_nonneg h0] at this
theorem of_ok {p q : Nat} {S : Sto} {c : Nat} {ds : List D} (hp : Pot p S c) (hc : c ≤ 1000000) (hq : S[q]? = some (.lst ds)) (hn : q ≠ p) (h0 : 0 < ds.length) (h1 : ds.length ≤ 1000) :
    ∃ d S', F_l_of [.loc p, .loc q] S = .ok d S' ∧ d ∈ ds ∧ Pot p S' (c + 1) ∧ Grw p S S' := by
  obtain ⟨v, S', e, v0, v1, hp', hg⟩ := take_ok (n := ds.length) hp hc (by omega) (by omega)
  obtain ⟨d, hd, hm⟩ := atI_of v0 v1
  refine ⟨d, S', ?_, hm, hp', hg⟩
  unfold F_l_of
  have l1 : lenD [.loc q] S = .ok (.int ds.length) S := len_l S hq
  have l2 : ixD (.loc q) (.int v) S' = .ok d S' := ix_l S' (hg.at hn hq) hd
  repeat (first | walk_at "ev" | simp only [l1, e, l2])
theorem powC_a : powC 10 60 = true := by decide +kernel
theorem powC_c : powC 10 18 = true := by decide +kernel
theorem powC_b : powC (10 ^ (60 : Int).toNat) 5 = true := by decide +kernel
theorem P_pos : 0 < ((10 : Int) ^ (60 : Int).toNat) ^ (5 : Int).toNat := Int.pow_pos (Int.pow_pos (by decide))
theorem cell_ok (ns : List Int) (k : Nat) (S : Sto) : ∃ x : Int, mIf (tOf (m2 ltD (mVar 1) (mA lenD (mCons (mVar 0) mNil)))) (m2 ixD (mVar 0) (mVar 1)) (m2 addD (m2 mulD (mC (.int 37)) (mVar 1)) (mC (.int 11))) [some (.rls (ns.map D.int)), some (.int k), none, none] S = .ok (.int x) S := by
  by_cases h : (k : Int) < (ns.length : Int)
  · have hl : k < ns.length := by omega
    have hd := decide_eq_true h
    refine ⟨ns[k], ?_⟩
    have x1 : ixD (.rls (ns.map D.int)) (.int (k : Int)) S = .ok (.int ns[k]) S := ix_r S (atI_nat (by rw [List.getElem?_map, List.getElem?_eq_getElem hl]; rfl))
    repeat (first | walk_at "ev" | simp only [List.length_map, hd, x1])
  · have hd := decide_eq_false h
    refine ⟨37 * k + 11, ?_⟩
    have x1 : mulD (.int 37) (.int (k : Int)) S = .ok (.int (37 * k)) S := mul_ii _ _ _ (mulC_l (by decide) (by decide))
    repeat (first | walk_at "ev" | simp only [List.length_map, hd, x1])
theorem pot_run {ns : List Int} {k : Nat} (hk : k < 3) {S : Sto} {x P T U : Int} (hx : mIf (tOf (m2 ltD (mVar 1) (mA lenD (mCons (mVar 0) mNil)))) (m2 ixD (mVar 0) (mVar 1)) (m2 addD (m2 mulD (mC (.int 37)) (mVar 1)) (mC (.int 11))) [some (.rls (ns.map D.int)), some (.int k), none, none] S = .ok (.int x) S)
    (P0 : 0 < P) (pw0 : powD (.int 10) (.int 60) S = .ok (.int T) S) (pw1 : powD (.int T) (.int 5) S = .ok (.int P) S) (pw2 : powD (.int 10) (.int 18) S = .ok (.int U) S) :
    ∃ a b : Int, F_l_pot [.rls (ns.map D.int), .int k] S = .ok (.loc S.length) (S ++ [.lst [.int a, .int b, .int 0]]) ∧ 0 ≤ a ∧ 0 ≤ b ∧ b < 2305843009213693921 := by
  have hA : 0 ≤ (if x < 0 then -x else x) := by
    split <;> omega
  generalize hy : (if x < 0 then -x else x) = y at hA
  have md : modD (.int y) (.int P) S = .ok (.int (y.fmod P)) S := mod_ii _ _ _ (modC_p P0)
  obtain ⟨f0, _⟩ := fmod_r y P0
  have bt : ∃ t : Int, (t = 0 ∨ t = 1) ∧ (if decide (U ≤ y) = true then (1 : Int) else 0) = t := by
    by_cases h : U ≤ y
    · exact ⟨1, .inr rfl, by rw [decide_eq_true h]; rfl⟩
    · exact ⟨0, .inl rfl, by rw [decide_eq_false h]; rfl⟩
  obtain ⟨t, ht, ht2⟩ := bt
  have ml : mulD (.int (y.fmod P)) (.int t) S = .ok (.int (y.fmod P * t)) S := mul_ii _ _ _ (mulC_r (by omega) (by omega))
  have n1 : modD (.int x) (.int 2305843009213693951) S = .ok (.int (x.fmod 2305843009213693951)) S := mod_ii _ _ _ (modC_p (by omega))
  have n2 : mulD (.int (x.fmod 2305843009213693951)) (.int 70441) S = .ok (.int (x.fmod 2305843009213693951 * 70441)) S := mul_ii _ _ _ (mulC_r (by omega) (by omega))
  have n3 : mulD (.int 6337) (.int (k : Int)) S = .ok (.int (6337 * k)) S := mul_ii _ _ _ (mulC_l (by omega) (by omega))
  have n4 : mulD (.int (6337 * k)) (.int (k : Int)) S = .ok (.int (6337 * k * k)) S := mul_ii _ _ _ (mulC_r (by omega) (by omega))
  generalize hz : x.fmod 2305843009213693951 * 70441 + 6337 * k * k + 71 = z
  have n5 : modD (.int z) (.int 2305843009213693921) S = .ok (.int (z.fmod 2305843009213693921)) S := mod_ii _ _ _ (modC_p (by omega))
  obtain ⟨g0, g1⟩ := fmod_r z (n := 2305843009213693921) (by omega)
  refine ⟨y.fmod P * t, z.fmod 2305843009213693921, ?_, ?_, g0, g1⟩
  · unfold F_l_pot
    rw [fnM_ap _ _ _ _ _ (by rfl)]
    rw [sSeq_ap, sAs_ap]
    rw [show ([D.rls (ns.map D.int), D.int k].map some ++ List.replicate (4 - 2) none) = [some (.rls (ns.map D.int)), some (.int k), none, none] from rfl, hx]
    repeat (first | walk_at "ev" | simp only [hy, pw0, pw1, pw2, md, ht2, ml, n1, n2, n3, n4, hz, n5])
  · rcases ht with rfl | rfl
    · rw [Int.mul_zero]; exact Int.le_refl 0
    · rw [Int.mul_one]; exact f0
theorem pot_ok (ns : List Int) (k : Nat) (hk : k < 3) (S : Sto) : ∃ a b : Int, F_l_pot [.rls (ns.map D.int), .int k] S = .ok (.loc S.length) (S ++ [.lst [.int a, .int b, .int 0]]) ∧ 0 ≤ a ∧ 0 ≤ b ∧ b < 2305843009213693921 := by
  obtain ⟨x, hx⟩ := cell_ok ns k S
  exact pot_run hk hx P_pos (pow_ii S 10 60 powC_a) (pow_ii S _ 5 powC_b) (pow_ii S 10 18 powC_c)
/-! ### stamps -/
abbrev St (a b : Int) : D := .tup [.int a, .int b]
theorem isa1 (S : Sto) (m : Int) : isiD [.int m, .ty "int"] S = .ok (.bl true) S := isi_i S m "int" true (by decide)
theorem isa2 (S : Sto) (m : Int) : isiD [.int m, .ty "bool"] S = .ok (.bl false) S := isi_i S m "bool" false (by decide)
theorem isa3 (S : Sto) (ds : List D) : isiD [.tup ds, .ty "tuple"] S = .ok (.bl true) S := isi_t S ds "tuple" true (by decide)
theorem count_ok {i : Int} (h : 0 ≤ i) (S : Sto) : F_is_count [.int i] S = .ok (.bl true) S := by
  unfold F_is_count
  have hd := decide_eq_true h
  repeat (first | walk_at "ev" | simp only [isa1, isa2, hd])
theorem stamp_ok {a b : Int} (ha : 0 ≤ a) (hb : 0 ≤ b) (S : Sto) : ∃ l, F_is_stamp [St a b] S = .ok (.bl true) (S ++ l) := by
  obtain ⟨l, hl⟩ := mLc_pure (m := mSrc (mVar 0)) (src := .items [.int a, .int b]) [.int a, .int b] (fun _ => .bl true) (g := gN 1) (t := tT) (e := mA F_is_count (mCons (mVar 1) mNil)) (vs := [1]) (r := [some (St a b), none]) (S := S) (S0 := S) rfl rfl (fun _ _ => rfl) (fun d hd l => by
    obtain ⟨i, hi, rfl⟩ : ∃ i : Int, 0 ≤ i ∧ d = .int i := by
      rcases List.mem_cons.mp hd with rfl | hd
      · exact ⟨a, ha, rfl⟩
      · rcases List.mem_cons.mp hd with rfl | hd
        · exact ⟨b, hb, rfl⟩
        · cases hd
    refine ⟨[some (St a b), some (.int i)], [], rfl, rfl, ?_⟩
    have := count_ok hi (S ++ l)
    repeat (first | walk_at "ev" | simp only [this, List.append_nil])) (by rw [sizeLine_eq]; show (2 : Nat) ≤ _; decide)
  refine ⟨.lst [.bl true, .bl true] :: l, ?_⟩
  have al : allD [.loc S.length] (S ++ .lst [.bl true, .bl true] :: l) = .ok (.bl true) (S ++ .lst [.bl true, .bl true] :: l) := all_rep (k := 2) (at_end2 _ _ _)
  have hl' : mLc (mSrc (mVar 0)) (gN 1) tT (mA F_is_count (mCons (mVar 1) mNil)) [1] [some (St a b), none] S = .ok (.loc S.length) (S ++ .lst [.bl true, .bl true] :: l) := hl
  unfold F_is_stamp
  have hd : decide ((2 : Int) = 2) = true := rfl
  repeat (first | walk_at "ev" | simp only [isa3, hd, hl', al, decide_true, show ((2 : Nat) : Int) = 2 from rfl, show ((0 : Nat) + 1 + 1 : Nat) = 2 from rfl])
theorem both_ok {a b d : Int} (ha : 0 ≤ a) (hb : 0 ≤ b) (hd : 0 ≤ d) (S : Sto) : ∃ l, F_check_both [St a b, .int d] S = .ok .non (S ++ l) := by
  obtain ⟨l, hl⟩ := stamp_ok ha hb S
  refine ⟨l, ?_⟩
  have hc := count_ok hd (S ++ l)
  unfold F_check_both
  repeat (first | walk_at "ev" | simp only [hl, hc])
def la1 (a d : Int) : Int := if 0 < d then a + d else a
def la2 (b d : Int) : Int := if 0 < d then 0 else b + 1
def ah1 (a b d : Int) : Int := if d = 0 then a else if a - d + (if 0 < b then 1 else 0) > 0 then a - d + (if 0 < b then 1 else 0) else 0
def ah2 (b d : Int) : Int := if d = 0 then (if b - 1 > 0 then b - 1 else 0) else 0
theorem later_of_ok {a b d : Int} (hd : 0 ≤ d) (S : Sto) : F_later_of [St a b, .int d] S = .ok (St (la1 a d) (la2 b d)) S := by
  unfold F_later_of la1 la2
  by_cases h : 0 < d
  · have h1 := decide_eq_true h
    repeat (first | walk_at "ev" | simp only [h1, if_pos h])
  · have h1 := decide_eq_false h
    repeat (first | walk_at "ev" | simp only [h1, if_neg h])
theorem later_ok {a b d : Int} (ha : 0 ≤ a) (hb : 0 ≤ b) (hd : 0 ≤ d) (S : Sto) : ∃ l, F_later [St a b, .int d] S = .ok (St (la1 a d) (la2 b d)) (S ++ l) := by
  obtain ⟨l, hl⟩ := both_ok ha hb hd S
  refine ⟨l, ?_⟩
  unfold F_later
  have h2 := later_of_ok (a := a) (b := b) hd (S ++ l)
  repeat (first | walk_at "ev" | simp only [hl, h2])
theorem ahead_ok {a b d : Int} (ha : 0 ≤ a) (hb : 0 ≤ b) (hd : 0 ≤ d) (S : Sto) : ∃ l, F_ahead_of [St a b, .int d] S = .ok (St (ah1 a b d) (ah2 b d)) (S ++ l) := by
  obtain ⟨l, hl⟩ := both_ok ha hb hd S
  refine ⟨l, ?_⟩
  unfold F_ahead_of ah1 ah2
  by_cases h : d = 0
  · have h1 := decide_eq_true h
    repeat (first | walk_at "ev" | simp only [hl, h1, if_pos h])
  · have h1 := decide_eq_false h
    by_cases hb1 : 0 < b
    · have h2 := decide_eq_true hb1
      repeat (first | walk_at "ev" | simp only [hl, h1, h2, if_neg h, if_pos hb1])
    · have h2 := decide_eq_false hb1
      repeat (first | walk_at "ev" | simp only [hl, h1, h2, if_neg h, if_neg hb1])
theorem l_later_ok {a b d : Int} (S : Sto) : F_l_later [St a b, .int d] S = .ok (St (la1 a d) (la2 b d)) S := by
  unfold F_l_later la1 la2
  have x0 : ixD (St a b) (.int 0) S = .ok (.int a) S := ix_t S rfl
  have x1 : ixD (St a b) (.int 1) S = .ok (.int b) S := ix_t S rfl
  by_cases h : 0 < d
  · have h1 := decide_eq_true h
    repeat (first | walk_at "ev" | simp only [h1, x0, x1, if_pos h])
  · have h1 := decide_eq_false h
    repeat (first | walk_at "ev" | simp only [h1, x0, x1, if_neg h])
theorem l_ahead_ok {a b d : Int} (hb : 0 ≤ b) (S : Sto) : F_l_ahead [St a b, .int d] S = .ok (St (ah1 a b d) (ah2 b d)) S := by
  unfold F_l_ahead ah1 ah2
  by_cases h : d = 0
  · have h1 := decide_eq_true h
    repeat (first | walk_at "ev" | simp only [h1, if_pos h])
  · have h1 := decide_eq_false h
    by_cases hb1 : 0 < b
    · have h2 : decide (b = 0) = false := decide_eq_false (by omega)
      repeat (first | walk_at "ev" | simp only [h1, h2, if_neg h, if_pos hb1])
    · have h2 : decide (b = 0) = true := decide_eq_true (by omega)
      repeat (first | walk_at "ev" | simp only [h1, h2, if_neg h, if_neg hb1, Int.add_zero])
end Lw
namespace Lw
open PySem PySem.Spec PyProof.Rows L2 Fa
local macro_rules | `(tactic| walk_at "ev") => `(tactic| simp only [bK_ok, bK_err, bK_bad, bnd_ap, ret_ap, fail_ap, mVar_ap, vK_some, mC_ap, m1_ap, m2_ap, k2_ap, mNil_ap, mCons_ap, kCons_ap, kCon_ap, mA_ap, mIf_ap, kIf_t, kIf_f, tOf_ap, isBl_ap, tNt_ap, kNt_ap, tAn_ap, kAn_t, kAn_f, tOr_ap, kOr_t, kOr_f, mNot_ap, kNot_ap, mAnd_ap, kAnd_t, kAnd_f, mOr_ap, kOrV_t, kOrV_f,
  sSeq_ap, sK_nx, sK_rt, sK_bk, sK_ct, sK_ex, sK_bad, oK_ok, oK_err, oK_bad, kNx_ap, kRt_ap, sEx_ap, sRet_ap, sRetN_ap, sNx_ap, sBad_ap, sIf_ap, kIfS_t, kIfS_f, gN_ap, gT_ap, gTc_ap, gT0_ap, sAs_ap, kAs_ap, kAs2_ok, sPar_ap, kPar_ap, gSubD_ap, kSub1_ap, kSub2_ap, kSub3_ap, fK_nx, fK_rt, fK_ex, mLM_ap, mRng1_ap, mRng2_ap, mSrc_ap, src_t, src_r,
  fnM_ap, tupD_ap, lstD_ap, le_line, Nat.reduceLeDiff, eq_self,
  add_ii, sub_ii, neg_i, lt_ii, le_ii, gt_ii, ge_ii, isN_n, isN_i, isN_t, isN_s, isN_b, isN_l, abs_i, max_ii, min_ii, int_i, int_b, len_t, len_r, eq_ii, eq_bb, eq_ss,
  List.map_cons, List.map_nil, List.cons_append, List.nil_append, List.replicate_succ, List.replicate_zero, List.length_cons, List.length_nil, Nat.reduceSub, Nat.reduceAdd, Nat.sub_self, Nat.zero_add,
  List.getElem?_cons_succ, List.getElem?_cons_zero, List.set_cons_succ, List.set_cons_zero, Bool.not_true, Bool.not_false, decide_true, decide_false, if_true, if_false, reduceIte, Bool.false_eq_true])
theorem ord_st {rel : Int → Int → Bool} {z : Nat → Nat → Bool} (a b c d : Int) (S : Sto) : ordD rel z (St a b) (St c d) S = .ok (.bl (if a = c then (if b = d then z 0 0 else rel b d) else rel a c)) S := by
  show (match toI [.int a, .int b], toI [.int c, .int d] with
    | some xs, some ys => ret (D.bl (lexB rel z xs ys))
    | _, _ => fail) S = _
  simp only [toI, Option.map_some, lexB]
  rfl
theorem ge_st (a b c d : Int) (S : Sto) : geD (St a b) (St c d) S = .ok (.bl (decide (c < a ∨ (a = c ∧ d ≤ b)))) S := by
  unfold geD
  rw [ord_st]
  congr 2
  unfold geI
  split
  · split
    · exact (decide_eq_true (by omega)).symm
    · exact decide_eq_decide.mpr (by omega)
  · exact decide_eq_decide.mpr (by omega)
theorem le_st (a b c d : Int) (S : Sto) : leD (St a b) (St c d) S = .ok (.bl (decide (a < c ∨ (a = c ∧ b ≤ d)))) S := by
  unfold leD
  rw [ord_st]
  congr 2
  unfold leI
  split
  · split
    · exact (decide_eq_true (by omega)).symm
    · exact decide_eq_decide.mpr (by omega)
  · exact decide_eq_decide.mpr (by omega)
theorem gt_st (a b c d : Int) (S : Sto) : gtD (St a b) (St c d) S = .ok (.bl (decide (c < a ∨ (a = c ∧ d < b)))) S := by
  unfold gtD
  rw [ord_st]
  congr 2
  unfold gtI
  split
  · split
    · exact (decide_eq_false (by omega)).symm
    · exact decide_eq_decide.mpr (by omega)
  · exact decide_eq_decide.mpr (by omega)
theorem eqS_st (a b c d : Int) (S : Sto) : eqB false (St a b) (St c d) S = .ok (.bl (decide (a = c ∧ b = d))) S := by
  rw [eq_tt]
  unfold eqS
  have s1 : ∀ x y : Int, snap S 40 (St x y) = some (.tuple [.int x, .int y]) := fun x y => rfl
  have s2 : ∀ x y : Int, SeqAt.shaped (.tuple [.int x, .int y]) = true := fun x y => by simp [SeqAt.shaped, PyData.canLay0, PyData.canLayAll0, PyData.depth, PyData.depthAll]
  simp only [s1, s2, Bool.and_true, if_true, PyData.eqv, PyData.eqvAll]
  congr 2
  by_cases h1 : a = c
  · by_cases h2 : b = d
    · simp [h1, h2]
    · simp [h1, h2]
  · simp [h1]
/-! repr of a stamp -/
def rp (a b : Int) : Str := (PyData.tuple [.int a, .int b]).shown
theorem log_small {a : Int} (h0 : 0 ≤ a) (h1 : a < 10 ^ 10) : a.natAbs.log2 < 1920 := by
  have h : a.natAbs < 2 ^ 1920 := Nat.lt_of_lt_of_le (show a.natAbs < 2 ^ 34 by omega) (Nat.pow_le_pow_right (by decide) (by decide))
  by_cases hz : a.natAbs = 0
  · rw [hz]; decide
  · exact (Nat.log2_lt hz).mpr h
theorem tuple_len (ts : List Str) : (tupleText ts).length ≤ piled ts + 3 := by
  unfold tupleText
  rw [strLen_append, strLen_append]
  have k1 : (Str.ofString "(").length = 1 := rfl
  have k2 : (Str.ofString (if (ts.length == 1) = true then ",)" else ")")).length ≤ 2 := by
    split
    · exact Nat.le_refl 2
    · exact Nat.le_succ 1
  by_cases h : ts = []
  · subst h
    have k3 : (Str.join ", " []).length = 0 := rfl
    rw [k3]
    omega
  · have := join_length_add ts h
    omega
theorem repr_st {a b : Int} (ha0 : 0 ≤ a) (ha1 : a < 10 ^ 10) (hb0 : 0 ≤ b) (hb1 : b < 10 ^ 10) (S : Sto) : reprD [St a b] S = .ok (.str (rp a b)) S := by
  unfold reprD
  have s1 : snap S 40 (St a b) = some (.tuple [.int a, .int b]) := rfl
  have s2 : shows (.tuple [.int a, .int b]) = true := by
    unfold shows
    have e1 := toString_length_le ha0 (k := 10) (by decide) ha1
    have e2 := toString_length_le hb0 (k := 10) (by decide) hb1
    have l1 := log_small ha0 ha1
    have l2 := log_small hb0 hb1
    have len : (PyData.tuple [.int a, .int b]).shown.length ≤ sizeLine := by
      simp only [PyData.shown, PyData.shownAll]
      refine Nat.le_trans (tuple_len _) ?_
      simp only [piled, List.map_cons, List.map_nil, List.sum_cons, List.sum_nil]
      rw [sizeLine_eq]
      omega
    rw [decide_eq_true len]
    simp [PyData.showable, PyData.showableAll, PyData.hasDict, PyData.hasDictAll, PyData.depth, PyData.depthAll, l1, l2]
  simp only [s1, s2, if_true]
  rfl
theorem ne_ss (x : Str) (S : Sto) : eqB true (.str x) (.str x) S = .ok (.bl false) S := by
  rw [eq_ss]
  simp
/-! near -/
theorem near_ok {a b : Int} (ha0 : 0 ≤ a) (ha1 : a ≤ 10000000) (hb0 : 0 ≤ b) (hb1 : b ≤ 1000) (S : Sto) : ∃ (l : Sto) (ps : List (Int × Int)), F_l_near [St a b] S = .ok (.loc S.length) (S ++ .lst (ps.map fun q => St q.1 q.2) :: l) ∧ (∀ q ∈ ps, 0 ≤ q.1 ∧ 0 ≤ q.2) ∧ ps.length ≤ 5000 := by
  have lo : ∃ lo : Int, (if a - 2 > 0 then a - 2 else 0) = lo ∧ 0 ≤ lo ∧ a - 2 ≤ lo ∧ lo ≤ a := by
    by_cases h : a - 2 > 0
    · exact ⟨a - 2, if_pos h, by omega, by omega, by omega⟩
    · exact ⟨0, if_neg h, by omega, by omega, by omega⟩
  obtain ⟨lo, hlo, l0, l1, l2⟩ := lo
  have hm : mRng2 (mCons (mA maxD (mCons (mC (.int 0)) (mCons (m2 subD (mVar 1) (mC (.int 2))) mNil))) (mCons (m2 addD (mVar 1) (mC (.int 2))) mNil)) [some (St a b), some (.int a), some (.int b), some (.loc S.length), none, none] (S ++ [.lst []]) = .ok (.rng lo (a + 2 - lo).toNat) (S ++ [.lst []]) := by
    have r2 := rng2_i (i := lo) (j := a + 2) (by omega) (by omega) (by omega) (by omega) (S ++ [.lst []])
    repeat (first | walk_at "ev" | simp only [hlo, r2])
  obtain ⟨r', S', hf, hI⟩ := sFor_inv (a + 2 - lo).toNat (fun i => .int (lo + i)) (g := gN 4) (b := sEx (mLM extD (mVar 3) (mCons (mLc (mRng1 (mCons (m2 addD (mVar 2) (mC (.int 3))) mNil)) (gN 5) tT (mA tupD (mCons (mVar 4) (mCons (mVar 5) mNil))) [5]) mNil)))
    (fun i r T => ∃ (x y : Option D) (l : Sto) (ps : List (Int × Int)), r = [some (St a b), some (.int a), some (.int b), some (.loc S.length), x, y] ∧ T = S ++ .lst (ps.map fun q => St q.1 q.2) :: l ∧ (∀ q ∈ ps, 0 ≤ q.1 ∧ 0 ≤ q.2) ∧ ps.length ≤ i * 1003)
    hm rfl (fun i r T _ => next_rng _ _ _ _) (fun i r T hi hI => by
      obtain ⟨x, y, l, ps, rfl, rfl, hq, hz⟩ := hI
      have e1 : rngOf1 [.int (b + 3)] (S ++ .lst (ps.map fun q => St q.1 q.2) :: l) = .ok (.rng 0 (b + 3).toNat) (S ++ .lst (ps.map fun q => St q.1 q.2) :: l) := rng1_i (by omega) (by omega) _
      have hsrc : mRng1 (mCons (m2 addD (mVar 2) (mC (.int 3))) mNil) [some (St a b), some (.int a), some (.int b), some (.loc S.length), some (.int (lo + i)), y] (S ++ .lst (ps.map fun q => St q.1 q.2) :: l) = .ok (.rng 0 (b + 3).toNat) (S ++ .lst (ps.map fun q => St q.1 q.2) :: l) := by
        repeat (first | walk_at "ev" | simp only [e1])
      obtain ⟨l', hl'⟩ := mLc_pure (rngItems 0 (b + 3).toNat) (fun d => .tup [.int (lo + i), d]) (g := gN 5) (t := tT) (e := mA tupD (mCons (mVar 4) (mCons (mVar 5) mNil))) (vs := [5]) hsrc (rngItems_len _ _).symm (fun _ _ => next_items _ _ _ _) (fun d hd l => by
        refine ⟨[some (St a b), some (.int a), some (.int b), some (.loc S.length), some (.int (lo + i)), some d], [], rfl, rfl, ?_⟩
        repeat (first | walk_at "ev" | simp only [List.append_nil])) (by rw [rngItems_len, sizeLine_eq]; omega)
      generalize hT : S ++ .lst (ps.map fun q => St q.1 q.2) :: l = T at hl'
      have t0 : T[S.length]? = some (.lst (ps.map fun q => St q.1 q.2)) := by rw [← hT]; exact at_end2 _ _ _
      have qs : ∃ qs : List (Int × Int), (rngItems 0 (b + 3).toNat).map (fun d => D.tup [.int (lo + i), d]) = qs.map (fun q => St q.1 q.2) ∧ (∀ q ∈ qs, 0 ≤ q.1 ∧ 0 ≤ q.2) ∧ qs.length ≤ 1003 := by
        refine ⟨(List.range (b + 3).toNat).map fun (j : Nat) => (lo + i, 0 + (j : Int)), ?_, ?_, ?_⟩
        · unfold rngItems
          rw [List.map_map, List.map_map]
          rfl
        · intro q hq
          obtain ⟨j, _, rfl⟩ := List.mem_map.mp hq
          exact ⟨by omega, by omega⟩
        · rw [List.length_map, List.length_range]
          omega
      obtain ⟨qs, hqs, q0, q1⟩ := qs
      rw [hqs] at hl'
      have kk : kLM extD (mCons (mLc (mRng1 (mCons (m2 addD (mVar 2) (mC (.int 3))) mNil)) (gN 5) tT (mA tupD (mCons (mVar 4) (mCons (mVar 5) mNil))) [5]) mNil) [some (St a b), some (.int a), some (.int b), some (.loc S.length), some (.int (lo + i)), y] (.loc S.length) T = bK (mCons (mLc (mRng1 (mCons (m2 addD (mVar 2) (mC (.int 3))) mNil)) (gN 5) tT (mA tupD (mCons (mVar 4) (mCons (mVar 5) mNil))) [5]) mNil [some (St a b), some (.int a), some (.int b), some (.loc S.length), some (.int (lo + i)), y] T) (extD (.loc S.length)) := kLM_l t0
      have hx : ps.length ≤ 4 * 1003 := Nat.le_trans hz (Nat.mul_le_mul_right _ (by omega))
      have ex := ext_l (S := T ++ .lst (qs.map fun q => St q.1 q.2) :: l') (n := S.length) (m := T.length) (at_old t0) (at_end2 _ _ _) (by rw [List.length_map, List.length_map, sizeLine_eq]; omega)
      refine ⟨[some (St a b), some (.int a), some (.int b), some (.loc S.length), some (.int (lo + i)), y], T, [some (St a b), some (.int a), some (.int b), some (.loc S.length), some (.int (lo + i)), y], (T ++ .lst (qs.map fun q => St q.1 q.2) :: l').set S.length (.lst (ps.map (fun q => St q.1 q.2) ++ qs.map fun q => St q.1 q.2)), rfl, .inl ?_, some (.int (lo + i)), y, l ++ .lst (qs.map fun q => St q.1 q.2) :: l', ps ++ qs, rfl, ?_, ?_, ?_⟩
      · repeat (first | walk_at "ev" | simp only [kk, hl', ex])
      · rw [← hT, List.append_assoc, List.cons_append, set_end2, List.map_append]
      · intro q hq'
        rcases List.mem_append.mp hq' with h | h
        · exact hq q h
        · exact q0 q h
      · rw [List.length_append]
        have : (i + 1) * 1003 = i * 1003 + 1003 := Nat.succ_mul _ _
        omega)
    ⟨none, none, [], [], rfl, rfl, (fun q hq => by cases hq), Nat.zero_le _⟩
  obtain ⟨x, y, l, ps, rfl, rfl, hq, hz⟩ := hI
  refine ⟨l, ps, ?_, hq, ?_⟩
  · unfold F_l_near
    repeat (first | walk_at "ev" | simp only [hf])
  · have : (a + 2 - lo).toNat * 1003 ≤ 4 * 1003 := Nat.mul_le_mul_right _ (by omega)
    omega
end Lw
namespace Lw
open PySem PySem.Spec PyProof.Rows L2 Fa
local macro_rules | `(tactic| walk_at "ev") => `(tactic| simp only [bK_ok, bK_err, bK_bad, bnd_ap, ret_ap, fail_ap, mVar_ap, vK_some, mC_ap, m1_ap, m2_ap, k2_ap, mNil_ap, mCons_ap, kCons_ap, kCon_ap, mA_ap, mIf_ap, kIf_t, kIf_f, tOf_ap, isBl_ap, tNt_ap, kNt_ap, tAn_ap, kAn_t, kAn_f, tOr_ap, kOr_t, kOr_f, mNot_ap, kNot_ap, mAnd_ap, kAnd_t, kAnd_f, mOr_ap, kOrV_t, kOrV_f,
  sSeq_ap, sK_nx, sK_rt, sK_bk, sK_ct, sK_ex, sK_bad, oK_ok, oK_err, oK_bad, kNx_ap, kRt_ap, sEx_ap, sRet_ap, sRetN_ap, sNx_ap, sBad_ap, sIf_ap, kIfS_t, kIfS_f, gN_ap, gT_ap, gTc_ap, gT0_ap, sAs_ap, kAs_ap, kAs2_ok, sPar_ap, kPar_ap, gSubD_ap, kSub1_ap, kSub2_ap, kSub3_ap, fK_nx, fK_rt, fK_ex, mLM_ap, mRng1_ap, mRng2_ap, mSrc_ap, src_t, src_r,
  fnM_ap, tupD_ap, lstD_ap, le_line, Nat.reduceLeDiff, eq_self,
  add_ii, sub_ii, neg_i, lt_ii, le_ii, gt_ii, ge_ii, isN_n, isN_i, isN_t, isN_s, isN_b, isN_l, abs_i, max_ii, min_ii, int_i, int_b, len_t, len_r, eq_ii, eq_bb, eq_ss,
  List.map_cons, List.map_nil, List.cons_append, List.nil_append, List.replicate_succ, List.replicate_zero, List.length_cons, List.length_nil, Nat.reduceSub, Nat.reduceAdd, Nat.sub_self, Nat.zero_add,
  List.getElem?_cons_succ, List.getElem?_cons_zero, List.set_cons_succ, List.set_cons_zero, Bool.not_true, Bool.not_false, decide_true, decide_false, if_true, if_false, reduceIte, Bool.false_eq_true])
theorem pw6 (S : Sto) : powD (.int 10) (.int 6) S = .ok (.int 1000000) S := pow_ii S 10 6 (by decide +kernel)
theorem draw_of {p : Nat} {S : Sto} {c : Nat} {ds : List D} {lo hi : Int} (hp : Pot p S c) (hc : c ≤ 1000000) (h0 : 0 < ds.length) (h1 : ds.length ≤ 1000) (hb : ∀ d ∈ ds, ∃ i : Int, d = .int i ∧ lo ≤ i ∧ i ≤ hi) :
    ∃ v S', F_l_of [.loc p, .loc S.length] (S ++ [.lst ds]) = .ok (.int v) S' ∧ lo ≤ v ∧ v ≤ hi ∧ Pot p S' (c + 1) ∧ Grw p S S' := by
  obtain ⟨d, S', e, hd, hp', hg⟩ := of_ok (hp.app [.lst ds]) hc (at_end _ _) (Nat.ne_of_gt hp.lt) h0 h1
  obtain ⟨i, rfl, b0, b1⟩ := hb d hd
  exact ⟨i, S', e, b0, b1, hp', (Grw.app p S _).trans hg⟩
theorem mem4 {P : D → Prop} {a b c d : D} (h1 : P a) (h2 : P b) (h3 : P c) (h4 : P d) : ∀ x ∈ [a, b, c, d], P x := by
  intro x hx
  simp only [List.mem_cons, List.not_mem_nil, or_false] at hx
  rcases hx with rfl | rfl | rfl | rfl <;> assumption
theorem mem3 {P : D → Prop} {a b c : D} (h1 : P a) (h2 : P b) (h3 : P c) : ∀ x ∈ [a, b, c], P x := by
  intro x hx
  simp only [List.mem_cons, List.not_mem_nil, or_false] at hx
  rcases hx with rfl | rfl | rfl <;> assumption
theorem mem5 {P : D → Prop} {a b c d e : D} (h1 : P a) (h2 : P b) (h3 : P c) (h4 : P d) (h5 : P e) : ∀ x ∈ [a, b, c, d, e], P x := by
  intro x hx
  simp only [List.mem_cons, List.not_mem_nil, or_false] at hx
  rcases hx with rfl | rfl | rfl | rfl | rfl <;> assumption
theorem moment_ok {p : Nat} {S : Sto} {c : Nat} (hp : Pot p S c) (hc : c ≤ 100000) : ∃ a b S', F_l_moment [.loc p] S = .ok (St a b) S' ∧ 0 ≤ a ∧ a ≤ 1000000 ∧ 0 ≤ b ∧ b ≤ 30 ∧ Pot p S' (c + 4) ∧ Grw p S S' := by
  obtain ⟨n, S1, e1, n0, n1, p1, g1⟩ := draw_of (ds := [.int 2, .int 5, .int 40, .int 1000000]) (lo := 2) (hi := 1000000) hp (by omega) (by decide) (by decide) (mem4 ⟨2, rfl, by decide, by decide⟩ ⟨5, rfl, by decide, by decide⟩ ⟨40, rfl, by decide, by decide⟩ ⟨1000000, rfl, by decide, by decide⟩)
  obtain ⟨a, S2, e2, a0, a1, p2, g2⟩ := take_ok p1 (n := n) (by omega) (by omega) (by omega)
  obtain ⟨v, S3, e3, v0, v1, p3, g3⟩ := take_ok p2 (n := 30) (by omega) (by decide) (by decide)
  obtain ⟨b, S4, e4, b0, b1, p4, g4⟩ := draw_of (ds := [.int 0, .int 0, .int 1, .int 2, .int v]) (lo := 0) (hi := 30) p3 (by omega) (by simp) (by simp) (mem5 ⟨0, rfl, by decide, by decide⟩ ⟨0, rfl, by decide, by decide⟩ ⟨1, rfl, by decide, by decide⟩ ⟨2, rfl, by decide, by decide⟩ ⟨v, rfl, v0, by omega⟩)
  refine ⟨a, b, S4, ?_, a0, by omega, b0, b1, p4, ((g1.trans g2).trans g3).trans g4⟩
  unfold F_l_moment
  repeat (first | walk_at "ev" | simp only [pw6, e1, e2, e3, e4])
theorem mx (a : Int) (S : Sto) : maxD [.int 0, .int (a - 1)] S = .ok (.int (if a - 1 > 0 then a - 1 else 0)) S := max_ii S 0 (a - 1)
theorem beside_ok {p : Nat} {S : Sto} {c : Nat} {a b : Int} (hp : Pot p S c) (hc : c ≤ 100000) (a0 : 0 ≤ a) (a1 : a ≤ 1000000) (b0 : 0 ≤ b) (b1 : b ≤ 30) :
    ∃ x y S', F_l_beside [.loc p, St a b] S = .ok (St x y) S' ∧ 0 ≤ x ∧ x ≤ 1000001 ∧ 0 ≤ y ∧ y ≤ 40 ∧ Pot p S' (c + 5) ∧ Grw p S S' := by
  have hm : ∃ m : Int, (if a - 1 > 0 then a - 1 else 0) = m ∧ 0 ≤ m ∧ m ≤ 1000000 := by
    by_cases h : a - 1 > 0
    · exact ⟨a - 1, if_pos h, by omega, by omega⟩
    · exact ⟨0, if_neg h, by omega, by omega⟩
  obtain ⟨m, hm, m0, m1⟩ := hm
  obtain ⟨ds, hds⟩ : ∃ ds : List D, ds = [St a b, St a (b + 1), St (a + 1) 0, St (a + 1) b, St a 0, St m (b + 2)] := ⟨_, rfl⟩
  obtain ⟨u, v, S2, e2, u0, u1, v0, v1, p2, g2⟩ := moment_ok (hp.app [.lst ds]) hc
  have q2 : S2[S.length]? = some (.lst ds) := g2.at (Nat.ne_of_gt hp.lt) (at_end _ _)
  have ad : addD (.loc S.length) (.loc S2.length) (S2 ++ [MO.lst [St u v]]) = .ok (.loc (S2 ++ [MO.lst [St u v]]).length) (S2 ++ [MO.lst [St u v]] ++ [MO.lst (ds ++ [St u v])]) := add_ll _ (ds := ds) (xs := [St u v]) (at_old q2) (at_end _ _) (by rw [hds, sizeLine_eq]; simp)
  have p3 := p2.app [.lst [St u v]]
  obtain ⟨d, S5, e5, d5, p5, g5⟩ := of_ok (q := (S2 ++ [MO.lst [St u v]]).length) (ds := ds ++ [St u v]) (p3.app [.lst (ds ++ [St u v])]) (by omega) (at_end _ _) (Nat.ne_of_gt p3.lt) (by simp) (by rw [hds]; simp)
  have hd : ∃ x y : Int, d = St x y ∧ 0 ≤ x ∧ x ≤ 1000001 ∧ 0 ≤ y ∧ y ≤ 40 := by
    rw [hds] at d5
    simp only [List.mem_append, List.mem_cons, List.not_mem_nil, or_false] at d5
    rcases d5 with (rfl | rfl | rfl | rfl | rfl | rfl) | rfl
    · exact ⟨_, _, rfl, by omega, by omega, by omega, by omega⟩
    · exact ⟨_, _, rfl, by omega, by omega, by omega, by omega⟩
    · exact ⟨_, _, rfl, by omega, by omega, by omega, by omega⟩
    · exact ⟨_, _, rfl, by omega, by omega, by omega, by omega⟩
    · exact ⟨_, _, rfl, by omega, by omega, by omega, by omega⟩
    · exact ⟨_, _, rfl, by omega, by omega, by omega, by omega⟩
    · exact ⟨_, _, rfl, by omega, by omega, by omega, by omega⟩
  obtain ⟨x, y, rfl, x0, x1, y0, y1⟩ := hd
  refine ⟨x, y, S5, ?_, x0, x1, y0, y1, p5, ((((Grw.app p S [.lst ds]).trans g2).trans (Grw.app p S2 [.lst [St u v]])).trans (Grw.app p _ [.lst (ds ++ [St u v])])).trans g5⟩
  unfold F_l_beside
  repeat (first | walk_at "ev" | simp only [hm, ← hds, e2, ad, e5])
/-! the arithmetic -/
theorem ar1 {a b g : Int} (hg : 0 ≤ g) : decide (la1 a g < a ∨ (la1 a g = a ∧ la2 b g ≤ b)) = false := by
  refine decide_eq_false ?_
  unfold la1 la2
  (repeat' split) <;> omega
theorem ar2 {a b c e g : Int} (hb : 0 ≤ b) (he : 0 ≤ e) (hg : 0 ≤ g) (h : a < c ∨ (a = c ∧ b ≤ e)) : decide (la1 c g < la1 a g ∨ (la1 a g = la1 c g ∧ la2 e g < la2 b g)) = false := by
  refine decide_eq_false ?_
  unfold la1 la2
  (repeat' split) <;> omega
theorem ar3 {a b c e g : Int} (ha : 0 ≤ a) (hb : 0 ≤ b) (hc : 0 ≤ c) (he : 0 ≤ e) (hg : 0 ≤ g) : decide (c < la1 a g ∨ (la1 a g = c ∧ e ≤ la2 b g)) = decide (ah1 c e g < a ∨ (a = ah1 c e g ∧ ah2 e g ≤ b)) := by
  refine decide_eq_decide.mpr ?_
  unfold la1 la2 ah1 ah2
  by_cases h : g = 0
  · subst h
    simp only [Int.lt_irrefl, if_false, if_true, false_or, true_and, and_true]
    (repeat' split) <;> omega
  · have h1 : 0 < g := by omega
    simp only [h1, h, if_true, if_false]
    (repeat' split) <;> omega
theorem la_nn {a b g : Int} (ha : 0 ≤ a) (hb : 0 ≤ b) (hg : 0 ≤ g) : 0 ≤ la1 a g ∧ 0 ≤ la2 b g := by
  unfold la1 la2
  (repeat' split) <;> omega
theorem ah_nn {a b g : Int} (ha : 0 ≤ a) (hb : 0 ≤ b) : 0 ≤ ah1 a b g ∧ 0 ≤ ah2 b g := by
  unfold ah1 ah2
  constructor
  · split
    · exact ha
    · split <;> split <;> omega
  · split
    · split <;> omega
    · omega
theorem ar4 {a b g : Int} (ha : 0 ≤ a) (hb : 0 ≤ b) (hg : 0 ≤ g) : decide (ah1 (la1 a g) (la2 b g) g < a ∨ (ah1 (la1 a g) (la2 b g) g = a ∧ ah2 (la2 b g) g ≤ b)) = true := by
  refine decide_eq_true ?_
  unfold la1 la2 ah1 ah2
  by_cases h : g = 0
  · subst h
    simp only [Int.lt_irrefl, if_false, if_true, false_or, true_and, and_true]
    (repeat' split) <;> omega
  · have h1 : 0 < g := by omega
    simp only [h1, h, if_true, if_false, Int.lt_irrefl, false_or, true_and, and_true]
    (repeat' split) <;> omega
theorem ar5 {a b g : Int} (ha : 0 ≤ a) (hb : 0 ≤ b) (hg : 0 ≤ g) : decide (la1 (ah1 (la1 a g) (la2 b g) g) g = la1 a g ∧ la2 (ah2 (la2 b g) g) g = la2 b g) = true := by
  refine decide_eq_true ?_
  unfold la1 la2 ah1 ah2
  by_cases h : g = 0
  · subst h
    simp only [Int.lt_irrefl, if_false, if_true, false_or, true_and, and_true]
    (repeat' split) <;> omega
  · have h1 : 0 < g := by omega
    simp only [h1, h, if_true, if_false, Int.lt_irrefl, false_or, true_and, and_true]
    (repeat' split) <;> omega
theorem ar6 {a b g m : Int} (hg : 0 ≤ g) (hm : 0 ≤ m) (hb : 0 ≤ b) : decide (la1 a (g + m) < la1 a g ∨ (la1 a g = la1 a (g + m) ∧ la2 b (g + m) < la2 b g)) = false := by
  refine decide_eq_false ?_
  unfold la1 la2
  (repeat' split) <;> omega
theorem ar7 {a b g m : Int} (hg : 0 ≤ g) (hm : 0 ≤ m) (hb : 0 ≤ b) : decide (la1 a (g + m) < la1 (la1 a g) m ∨ (la1 (la1 a g) m = la1 a (g + m) ∧ la2 b (g + m) ≤ la2 (la2 b g) m)) = true := by
  refine decide_eq_true ?_
  unfold la1 la2
  (repeat' split) <;> omega
theorem ar8 {a b g m : Int} (hg : 0 < g) (hm : 0 < m) : decide (la1 (la1 a g) m = la1 a (g + m) ∧ la2 (la2 b g) m = la2 b (g + m)) = true := by
  refine decide_eq_true ?_
  unfold la1 la2
  rw [if_pos hm, if_pos hm, if_pos hg, if_pos (show 0 < g + m by omega), if_pos (show 0 < g + m by omega)]
  omega
theorem ne_bb (x : Bool) (S : Sto) : eqB true (.bl x) (.bl x) S = .ok (.bl false) S := by
  rw [eq_bb]
  simp
theorem eq_bb1 (x : Bool) (S : Sto) : eqB false (.bl x) (.bl x) S = .ok (.bl true) S := by
  rw [eq_bb]
  simp
theorem pair_ok {a b c e g : Int} (ha : 0 ≤ a) (hb : 0 ≤ b) (hc : 0 ≤ c) (he : 0 ≤ e) (hg : 0 ≤ g) (S : Sto) : ∃ l, F_l_pair_right [St a b, St c e, .int g] S = .ok (.bl true) (S ++ l) := by
  obtain ⟨f0, f1⟩ := la_nn ha hb hg
  obtain ⟨n0, n1⟩ := la_nn hc he hg
  obtain ⟨m0, m1⟩ := ah_nn (g := g) f0 f1
  obtain ⟨l1, h1⟩ := later_ok ha hb hg S
  obtain ⟨l2, h2⟩ := later_ok hc he hg (S ++ l1)
  obtain ⟨l3, h3⟩ := stamp_ok f0 f1 (S ++ l1 ++ l2)
  obtain ⟨l4, h4⟩ := stamp_ok n0 n1 (S ++ l1 ++ l2 ++ l3)
  obtain ⟨l5, h5⟩ := ahead_ok hc he hg (S ++ l1 ++ l2 ++ l3 ++ l4)
  obtain ⟨l6, h6⟩ := ahead_ok f0 f1 hg (S ++ l1 ++ l2 ++ l3 ++ l4 ++ l5)
  obtain ⟨l7, h7⟩ := ahead_ok f0 f1 hg (S ++ l1 ++ l2 ++ l3 ++ l4 ++ l5 ++ l6)
  obtain ⟨l8, h8⟩ := later_ok m0 m1 hg (S ++ l1 ++ l2 ++ l3 ++ l4 ++ l5 ++ l6 ++ l7)
  refine ⟨l1 ++ l2 ++ l3 ++ l4 ++ l5 ++ l6 ++ l7 ++ l8, ?_⟩
  have k1 := ar1 (a := a) (b := b) hg
  have k3 := ar3 ha hb hc he hg
  have k4 := ar4 ha hb hg
  have k5 := ar5 ha hb hg
  unfold F_l_pair_right
  by_cases h : a < c ∨ (a = c ∧ b ≤ e)
  · have k0 := decide_eq_true h
    have k2 := ar2 hb he hg h
    repeat (first | walk_at "ev" | simp only [h1, h2, h3, h4, le_st, gt_st, ge_st, k0, k1, k2, h5, k3, ne_bb, h6, k4, h7, h8, eqS_st, k5])
    simp only [List.append_assoc]
  · have k0 := decide_eq_false h
    repeat (first | walk_at "ev" | simp only [h1, h2, h3, h4, le_st, gt_st, ge_st, k0, k1, h5, k3, ne_bb, h6, k4, h7, h8, eqS_st, k5])
    simp only [List.append_assoc]
theorem right_ok {p : Nat} {S : Sto} {c : Nat} (hp : Pot p S c) (hc : c ≤ 10000) : ∃ S', F_l_right [.loc p] S = .ok (.bl true) S' ∧ Pot p S' (c + 20) ∧ Grw p S S' := by
  obtain ⟨a, b, S1, e1, a0, a1, b0, b1, p1, g1⟩ := moment_ok hp (by omega)
  obtain ⟨x, y, S2, e2, x0, x1, y0, y1, p2, g2⟩ := beside_ok p1 (by omega) a0 a1 b0 b1
  obtain ⟨v, S3, e3, v0, v1, p3, g3⟩ := take_ok p2 (n := 21) (by omega) (by decide) (by decide)
  obtain ⟨g, S4, e4, gg0, gg1, p4, g4⟩ := draw_of (ds := [.int 0, .int 0, .int 1, .int 2, .int v]) (lo := 0) (hi := 30) p3 (by omega) (by simp) (by simp) (mem5 ⟨0, rfl, by decide, by decide⟩ ⟨0, rfl, by decide, by decide⟩ ⟨1, rfl, by decide, by decide⟩ ⟨2, rfl, by decide, by decide⟩ ⟨v, rfl, v0, by omega⟩)
  obtain ⟨v', S5, e5, w0, w1, p5, g5⟩ := take_ok p4 (n := 21) (by omega) (by decide) (by decide)
  obtain ⟨m, S6, e6, m0, m1, p6, g6⟩ := draw_of (ds := [.int 0, .int 1, .int v']) (lo := 0) (hi := 30) p5 (by omega) (by simp) (by simp) (mem3 ⟨0, rfl, by decide, by decide⟩ ⟨1, rfl, by decide, by decide⟩ ⟨v', rfl, w0, by omega⟩)
  obtain ⟨f0, f1⟩ := la_nn a0 b0 gg0
  obtain ⟨l1, h1⟩ := pair_ok a0 b0 x0 y0 gg0 S6
  obtain ⟨l2, h2⟩ := pair_ok x0 y0 a0 b0 gg0 (S6 ++ l1)
  obtain ⟨l3, h3⟩ := later_ok a0 b0 gg0 (S6 ++ l1 ++ l2)
  obtain ⟨l4, h4⟩ := later_ok a0 b0 (d := g + m) (by omega) (S6 ++ l1 ++ l2 ++ l3)
  obtain ⟨l5, h5⟩ := later_ok a0 b0 gg0 (S6 ++ l1 ++ l2 ++ l3 ++ l4)
  obtain ⟨l6, h6⟩ := later_ok f0 f1 m0 (S6 ++ l1 ++ l2 ++ l3 ++ l4 ++ l5)
  obtain ⟨l7, h7⟩ := later_ok a0 b0 (d := g + m) (by omega) (S6 ++ l1 ++ l2 ++ l3 ++ l4 ++ l5 ++ l6)
  obtain ⟨l8, h8⟩ := later_ok a0 b0 (d := g + m) (by omega) (S6 ++ l1 ++ l2 ++ l3 ++ l4 ++ l5 ++ l6 ++ l7)
  have k6 := ar6 (a := a) gg0 m0 b0
  have k7 := ar7 (a := a) gg0 m0 b0
  have fin : ∀ l : Sto, ∃ T, T = S6 ++ l ∧ Pot p T (c + 20) ∧ Grw p S T := fun l => ⟨_, rfl, (p6.app l).mono (by omega), (((((g1.trans g2).trans g3).trans g4).trans g5).trans g6).trans (Grw.app p S6 l)⟩
  by_cases hg : g = 0
  · have d1 := decide_eq_true hg
    obtain ⟨T, hT, t1, t2⟩ := fin (l1 ++ l2 ++ l3 ++ l4 ++ l5 ++ l6 ++ l7)
    refine ⟨T, ?_, t1, t2⟩
    unfold F_l_right
    repeat (first | walk_at "ev" | simp only [e1, e2, e3, e4, e5, e6, h1, h2, h3, h4, gt_st, k6, h5, h6, h7, ge_st, k7, d1])
    rw [hT]
    simp only [List.append_assoc]
  · have d1 := decide_eq_false hg
    by_cases hm : m = 0
    · have d2 := decide_eq_true hm
      obtain ⟨T, hT, t1, t2⟩ := fin (l1 ++ l2 ++ l3 ++ l4 ++ l5 ++ l6 ++ l7)
      refine ⟨T, ?_, t1, t2⟩
      unfold F_l_right
      repeat (first | walk_at "ev" | simp only [e1, e2, e3, e4, e5, e6, h1, h2, h3, h4, gt_st, k6, h5, h6, h7, ge_st, k7, d1, d2])
      rw [hT]
      simp only [List.append_assoc]
    · have d2 := decide_eq_false hm
      have k8 := ar8 (a := a) (b := b) (g := g) (m := m) (by omega) (by omega)
      obtain ⟨T, hT, t1, t2⟩ := fin (l1 ++ l2 ++ l3 ++ l4 ++ l5 ++ l6 ++ l7 ++ l8)
      refine ⟨T, ?_, t1, t2⟩
      unfold F_l_right
      repeat (first | walk_at "ev" | simp only [e1, e2, e3, e4, e5, e6, h1, h2, h3, h4, gt_st, k6, h5, h6, h7, ge_st, k7, d1, d2, h8, eqS_st, k8])
      rw [hT]
      simp only [List.append_assoc]
end Lw
namespace Lw
open PySem PySem.Spec PyProof.Rows L2 Fa
local macro_rules | `(tactic| walk_at "ev") => `(tactic| simp only [bK_ok, bK_err, bK_bad, bnd_ap, ret_ap, fail_ap, mVar_ap, vK_some, mC_ap, m1_ap, m2_ap, k2_ap, mNil_ap, mCons_ap, kCons_ap, kCon_ap, mA_ap, mIf_ap, kIf_t, kIf_f, tOf_ap, isBl_ap, tNt_ap, kNt_ap, tAn_ap, kAn_t, kAn_f, tOr_ap, kOr_t, kOr_f, mNot_ap, kNot_ap, mAnd_ap, kAnd_t, kAnd_f, mOr_ap, kOrV_t, kOrV_f,
  sSeq_ap, sK_nx, sK_rt, sK_bk, sK_ct, sK_ex, sK_bad, oK_ok, oK_err, oK_bad, kNx_ap, kRt_ap, sEx_ap, sRet_ap, sRetN_ap, sNx_ap, sBad_ap, sIf_ap, kIfS_t, kIfS_f, gN_ap, gT_ap, gTc_ap, gT0_ap, sAs_ap, kAs_ap, kAs2_ok, sPar_ap, kPar_ap, gSubD_ap, kSub1_ap, kSub2_ap, kSub3_ap, fK_nx, fK_rt, fK_ex, mLM_ap, mRng1_ap, mRng2_ap, mSrc_ap, src_t, src_r,
  fnM_ap, tupD_ap, lstD_ap, le_line, Nat.reduceLeDiff, eq_self,
  add_ii, sub_ii, neg_i, lt_ii, le_ii, gt_ii, ge_ii, isN_n, isN_i, isN_t, isN_s, isN_b, isN_l, abs_i, max_ii, min_ii, int_i, int_b, len_t, len_r, eq_ii, eq_bb, eq_ss,
  List.map_cons, List.map_nil, List.cons_append, List.nil_append, List.replicate_succ, List.replicate_zero, List.length_cons, List.length_nil, Nat.reduceSub, Nat.reduceAdd, Nat.sub_self, Nat.zero_add,
  List.getElem?_cons_succ, List.getElem?_cons_zero, List.set_cons_succ, List.set_cons_zero, Bool.not_true, Bool.not_false, decide_true, decide_false, if_true, if_false, reduceIte, Bool.false_eq_true])
theorem mem8 {P : D → Prop} {a b c d e f g h : D} (h1 : P a) (h2 : P b) (h3 : P c) (h4 : P d) (h5 : P e) (h6 : P f) (h7 : P g) (h8 : P h) : ∀ x ∈ [a, b, c, d, e, f, g, h], P x := by
  intro x hx
  simp only [List.mem_cons, List.not_mem_nil, or_false] at hx
  rcases hx with rfl | rfl | rfl | rfl | rfl | rfl | rfl | rfl <;> assumption
theorem kw2 (F : List D → M D) (x y : D) (S : Sto) : kwF 2 [1, 0] F [x, y] S = F [y, x] S := id rfl
theorem all_true {α : Type} {n : Nat} {S : Sto} (xs : List α) (h : S[n]? = some (.lst (xs.map fun _ => D.bl true))) : allD [.loc n] S = .ok (.bl true) S := by
  have := all_map (fun _ => true) xs h
  rw [this]
  simp
theorem ah_le {a b g : Int} (ha0 : 0 ≤ a) (ha : a ≤ 1000000) (hb0 : 0 ≤ b) (hb : b ≤ 400) (hg : 0 ≤ g) : ah1 a b g ≤ 1000001 ∧ ah2 b g ≤ 400 := by
  unfold ah1 ah2
  constructor
  · (repeat' split) <;> omega
  · (repeat' split) <;> omega
theorem seq1 {A B : Fa.Env → Sto → Out} {r r1 : Fa.Env} {S S1 : Sto} {o : Out} (h1 : A r S = .nx r1 S1) (h2 : B r1 S1 = o) : sSeq A B r S = o := by
  rw [sSeq_ap, h1]
  exact h2
/-- what is asked of one stamp and its delay -/
theorem one_tail {p : Nat} {S : Sto} {c : Nat} {t u g : Int} (hp : Pot p S c) (t0 : 0 ≤ t) (t1 : t ≤ 1000000) (u0 : 0 ≤ u) (u1 : u ≤ 400) (g0 : 0 ≤ g) (g1 : g ≤ 1000001) {r : Fa.Env}
    (hr : r = [some (.loc p), some (.int t), some (.int u), some (St t u), some (.int g), none, none, none]) :
    ∃ S', sSeq (sIf (tOf (m2 (eqB true) (mA reprD (mCons (mA F_later (mCons (mVar 3) (mCons (mVar 4) mNil))) mNil)) (mA reprD (mCons (mA F_l_later (mCons (mVar 3) (mCons (mVar 4) mNil))) mNil)))) (sRet (mC (.bl false))) sNx)
    (sSeq (sIf (tOf (m2 (eqB true) (mA reprD (mCons (mA (kwF 2 [1, 0] F_later) (mCons (mVar 4) (mCons (mVar 3) mNil))) mNil)) (mA reprD (mCons (mA F_l_later (mCons (mVar 3) (mCons (mVar 4) mNil))) mNil)))) (sRet (mC (.bl false))) sNx)
    (sSeq (sAs (mA F_ahead_of (mCons (mVar 3) (mCons (mVar 4) mNil))) (gN 5))
    (sSeq (sIf (Fa.tOr (tOf (m2 (eqB true) (mA reprD (mCons (mVar 5) mNil)) (mA reprD (mCons (mA F_l_ahead (mCons (mVar 3) (mCons (mVar 4) mNil))) mNil)))) (tOf (m2 (eqB true) (mA reprD (mCons (mA (kwF 2 [1, 0] F_ahead_of) (mCons (mVar 4) (mCons (mVar 3) mNil))) mNil)) (mA reprD (mCons (mVar 5) mNil))))) (sRet (mC (.bl false))) sNx)
    (sSeq (sAs (m2 addD (m2 addD (mA F_l_near (mCons (mA tupD (mCons (mVar 1) (mCons (mA minD (mCons (mVar 2) (mCons (mC (.int 5)) mNil))) mNil))) mNil)) (mA F_l_near (mCons (mA F_l_ahead (mCons (mVar 3) (mCons (mVar 4) mNil))) mNil))) (mA lstD (mCons (mA tupD (mCons (mC (.int 0)) (mCons (mC (.int 0)) mNil))) (mCons (mA tupD (mCons (mC (.int 0)) (mCons (mC (.int 1)) mNil))) mNil)))) (gN 6))
    (sRet (mA allD (mCons (mLc (mSrc (mVar 6)) (gN 7) tT (m2 (eqB false) (m2 geD (mA F_l_later (mCons (mVar 7) (mCons (mVar 4) mNil))) (mVar 3)) (m2 geD (mVar 7) (mVar 5))) [7]) mNil))))))) r S = .rt (.bl true) S' ∧ Pot p S' c ∧ Grw p S S' := by
  subst hr
  obtain ⟨f0, f1⟩ := la_nn t0 u0 g0
  obtain ⟨a0, a1⟩ := ah_nn (g := g) t0 u0
  obtain ⟨a2, a3⟩ := ah_le t0 t1 u0 u1 g0
  have f2 : la1 t g < 10 ^ 10 ∧ la2 u g < 10 ^ 10 := by
    unfold la1 la2
    split <;> omega
  obtain ⟨l1, h1⟩ := later_ok t0 u0 g0 S
  obtain ⟨l2, h2⟩ := later_ok t0 u0 g0 (S ++ l1)
  obtain ⟨l3, h3⟩ := ahead_ok t0 u0 g0 (S ++ l1 ++ l2)
  obtain ⟨l4, h4⟩ := ahead_ok t0 u0 g0 (S ++ l1 ++ l2 ++ l3)
  have r1 := fun T => repr_st f0 f2.1 f1 f2.2 T
  have r2 := fun T => repr_st a0 (by omega) a1 (by omega) T
  have q1 := fun T => l_later_ok (a := t) (b := u) (d := g) T
  have q2 := fun T => l_ahead_ok (a := t) (d := g) u0 T
  have hm : ∃ m : Int, (if 5 < u then 5 else u) = m ∧ 0 ≤ m ∧ m ≤ 5 := by
    by_cases h : 5 < u
    · exact ⟨5, if_pos h, by decide, by decide⟩
    · exact ⟨u, if_neg h, u0, by omega⟩
  obtain ⟨m, hm, m0, m1⟩ := hm
  have p7 : Pot p (S ++ l1 ++ l2 ++ l3 ++ l4) c := (((hp.app l1).app l2).app l3).app l4
  have g7 : Grw p S (S ++ l1 ++ l2 ++ l3 ++ l4) := (((Grw.app p S l1).trans (Grw.app p _ l2)).trans (Grw.app p _ l3)).trans (Grw.app p _ l4)
  generalize hS7 : S ++ l1 ++ l2 ++ l3 ++ l4 = S7 at p7 g7
  obtain ⟨k1, ps1, n1, b1, z1⟩ := near_ok t0 (by omega) m0 (by omega) S7
  have e8 : (S7 ++ MO.lst (ps1.map fun q => St q.1 q.2) :: k1)[S7.length]? = some (.lst (ps1.map fun q => St q.1 q.2)) := at_end2 _ _ _
  have p8 := p7.app (MO.lst (ps1.map fun q => St q.1 q.2) :: k1)
  have g8 := g7.trans (Grw.app p S7 (MO.lst (ps1.map fun q => St q.1 q.2) :: k1))
  generalize hS8 : S7 ++ MO.lst (ps1.map fun q => St q.1 q.2) :: k1 = S8 at n1 e8 p8 g8
  obtain ⟨k2, ps2, n2, b2, z2⟩ := near_ok (a := ah1 t u g) (b := ah2 u g) a0 (by omega) a1 (by omega) S8
  have e9 : (S8 ++ MO.lst (ps2.map fun q => St q.1 q.2) :: k2)[S8.length]? = some (.lst (ps2.map fun q => St q.1 q.2)) := at_end2 _ _ _
  have e9' : (S8 ++ MO.lst (ps2.map fun q => St q.1 q.2) :: k2)[S7.length]? = some (.lst (ps1.map fun q => St q.1 q.2)) := at_old e8
  have p9 := p8.app (MO.lst (ps2.map fun q => St q.1 q.2) :: k2)
  have g9 := g8.trans (Grw.app p S8 (MO.lst (ps2.map fun q => St q.1 q.2) :: k2))
  generalize hS9 : S8 ++ MO.lst (ps2.map fun q => St q.1 q.2) :: k2 = S9 at n2 e9 e9' p9 g9
  have d1 := add_ll S9 e9' e9 (by rw [List.length_map, List.length_map, sizeLine_eq]; omega)
  rw [← List.map_append] at d1
  have e10 : (S9 ++ [MO.lst ((ps1 ++ ps2).map fun q => St q.1 q.2)])[S9.length]? = some (.lst ((ps1 ++ ps2).map fun q => St q.1 q.2)) := at_end _ _
  have p10 := p9.app [MO.lst ((ps1 ++ ps2).map fun q => St q.1 q.2)]
  have g10 := g9.trans (Grw.app p S9 [MO.lst ((ps1 ++ ps2).map fun q => St q.1 q.2)])
  generalize hS10 : S9 ++ [MO.lst ((ps1 ++ ps2).map fun q => St q.1 q.2)] = S10 at d1 e10 p10 g10
  have e11 : (S10 ++ [MO.lst ([((0 : Int), (0 : Int)), (0, 1)].map fun q => St q.1 q.2)])[S10.length]? = some (.lst ([((0 : Int), (0 : Int)), (0, 1)].map fun q => St q.1 q.2)) := at_end _ _
  have e11' : (S10 ++ [MO.lst ([((0 : Int), (0 : Int)), (0, 1)].map fun q => St q.1 q.2)])[S9.length]? = some (.lst ((ps1 ++ ps2).map fun q => St q.1 q.2)) := at_old e10
  have p11 := p10.app [MO.lst ([((0 : Int), (0 : Int)), (0, 1)].map fun q => St q.1 q.2)]
  have g11 := g10.trans (Grw.app p S10 [MO.lst ([((0 : Int), (0 : Int)), (0, 1)].map fun q => St q.1 q.2)])
  have hS11' : S10 ++ [MO.lst [St 0 0, St 0 1]] = S10 ++ [MO.lst ([((0 : Int), (0 : Int)), (0, 1)].map fun q => St q.1 q.2)] := rfl
  generalize hS11 : S10 ++ [MO.lst ([((0 : Int), (0 : Int)), (0, 1)].map fun q => St q.1 q.2)] = S11 at e11 e11' p11 g11 hS11'
  have d2 := add_ll S11 e11' e11 (by rw [List.length_map, List.length_map, List.length_append, sizeLine_eq]; simp only [List.length_cons, List.length_nil]; omega)
  rw [← List.map_append] at d2
  obtain ⟨ps, hps⟩ : ∃ ps : List (Int × Int), ps = ps1 ++ ps2 ++ [((0 : Int), (0 : Int)), (0, 1)] := ⟨_, rfl⟩
  rw [← hps] at d2
  have hb : ∀ q ∈ ps, 0 ≤ q.1 ∧ 0 ≤ q.2 := by
    intro q hq
    rw [hps] at hq
    simp only [List.mem_append, List.mem_cons, List.not_mem_nil, or_false] at hq
    rcases hq with (h | h) | rfl | rfl
    · exact b1 q h
    · exact b2 q h
    · exact ⟨by decide, by decide⟩
    · exact ⟨by decide, by decide⟩
  have e12 : (S11 ++ [MO.lst (ps.map fun q => St q.1 q.2)])[S11.length]? = some (.lst (ps.map fun q => St q.1 q.2)) := at_end _ _
  have p12 := p11.app [MO.lst (ps.map fun q => St q.1 q.2)]
  have g12 := g11.trans (Grw.app p S11 [MO.lst (ps.map fun q => St q.1 q.2)])
  generalize hS12 : S11 ++ [MO.lst (ps.map fun q => St q.1 q.2)] = S12 at d2 e12 p12 g12
  obtain ⟨l, hl⟩ := mLc_pure (m := mSrc (mVar 6)) (src := .lst S11.length) (ps.map fun q => St q.1 q.2) (fun _ => .bl true) (g := gN 7) (t := tT) (e := m2 (eqB false) (m2 geD (mA F_l_later (mCons (mVar 7) (mCons (mVar 4) mNil))) (mVar 3)) (m2 geD (mVar 7) (mVar 5))) (vs := [7])
    (r := [some (.loc p), some (.int t), some (.int u), some (St t u), some (.int g), some (St (ah1 t u g) (ah2 u g)), some (.loc S11.length), none]) (S := S12) (S0 := S12) (by
      have := src_l e12
      repeat (first | walk_at "ev" | simp only [this])) (turns_lst e12) (fun l i => next_lst (at_old e12)) (fun d hd l => by
      obtain ⟨q, hq, rfl⟩ := List.mem_map.mp hd
      obtain ⟨q0, q1'⟩ := hb q hq
      refine ⟨[some (.loc p), some (.int t), some (.int u), some (St t u), some (.int g), some (St (ah1 t u g) (ah2 u g)), some (.loc S11.length), some (St q.1 q.2)], [], rfl, rfl, ?_⟩
      have w := ar3 (a := q.1) (b := q.2) (c := t) (e := u) q0 q1' t0 u0 g0
      have w2 := l_later_ok (a := q.1) (b := q.2) (d := g) (S12 ++ l)
      repeat (first | walk_at "ev" | simp only [w2, ge_st, w, eq_bb1, List.append_nil])) (by
      rw [List.length_map, hps, sizeLine_eq]
      simp only [List.length_append, List.length_cons, List.length_nil]
      omega)
  rw [List.map_map] at hl
  have al : allD [.loc S12.length] (S12 ++ MO.lst (ps.map ((fun _ => D.bl true) ∘ fun q => St q.1 q.2)) :: l) = .ok (.bl true) (S12 ++ MO.lst (ps.map ((fun _ => D.bl true) ∘ fun q => St q.1 q.2)) :: l) := all_true ps (at_end2 _ _ _)
  refine ⟨S12 ++ MO.lst (ps.map ((fun _ => D.bl true) ∘ fun q => St q.1 q.2)) :: l, ?_, p12.app _, g12.trans (Grw.app p S12 _)⟩
  repeat (first | walk_at "ev" | simp only [h1, r1, q1, ne_ss, kw2, h2, h3, r2, q2, h4, hS7, hm, n1, hS8, n2, hS9, d1, hS11', d2, hl, al])
theorem one_ok {p : Nat} {S : Sto} {c : Nat} (hp : Pot p S c) (hc : c ≤ 100000) : ∃ S', F_l_one_right [.loc p] S = .ok (.bl true) S' ∧ Pot p S' (c + 10) ∧ Grw p S S' := by
  obtain ⟨n, S1, e1, n0, n1, p1, g1⟩ := draw_of (ds := [.int 3, .int 9, .int 60, .int 1000000]) (lo := 3) (hi := 1000000) hp (by omega) (by decide) (by decide) (mem4 ⟨3, rfl, by decide, by decide⟩ ⟨9, rfl, by decide, by decide⟩ ⟨60, rfl, by decide, by decide⟩ ⟨1000000, rfl, by decide, by decide⟩)
  obtain ⟨t, S2, e2, t0, t1, p2, g2⟩ := take_ok p1 (n := n) (by omega) (by omega) (by omega)
  obtain ⟨v, S3, e3, v0, v1, p3, g3⟩ := take_ok p2 (n := 400) (by omega) (by decide) (by decide)
  obtain ⟨u, S4, e4, u0, u1, p4, g4⟩ := draw_of (ds := [.int 0, .int 0, .int 1, .int 2, .int v]) (lo := 0) (hi := 400) p3 (by omega) (by simp) (by simp) (mem5 ⟨0, rfl, by decide, by decide⟩ ⟨0, rfl, by decide, by decide⟩ ⟨1, rfl, by decide, by decide⟩ ⟨2, rfl, by decide, by decide⟩ ⟨v, rfl, v0, by omega⟩)
  have hm : ∃ m : Int, (if t - 1 > 0 then t - 1 else 0) = m ∧ 0 ≤ m ∧ m ≤ 1000000 := by
    by_cases h : t - 1 > 0
    · exact ⟨t - 1, if_pos h, by omega, by omega⟩
    · exact ⟨0, if_neg h, by omega, by omega⟩
  obtain ⟨m, hm, m0, m1⟩ := hm
  obtain ⟨w, S5, e5, w0, w1, p5, g5⟩ := take_ok p4 (n := 21) (by omega) (by decide) (by decide)
  obtain ⟨g, S6, e6, gg0, gg1, p6, g6⟩ := draw_of (ds := [.int 0, .int 0, .int 1, .int 2, .int t, .int (t + 1), .int m, .int w]) (lo := 0) (hi := 1000001) p5 (by omega) (by simp) (by simp) (mem8 ⟨0, rfl, by decide, by decide⟩ ⟨0, rfl, by decide, by decide⟩ ⟨1, rfl, by decide, by decide⟩ ⟨2, rfl, by decide, by decide⟩ ⟨t, rfl, t0, by omega⟩ ⟨t + 1, rfl, by omega, by omega⟩ ⟨m, rfl, m0, by omega⟩ ⟨w, rfl, w0, by omega⟩)
  obtain ⟨S', h, q1, q2⟩ := one_tail p6 t0 (by omega) u0 u1 gg0 gg1 rfl
  refine ⟨S', ?_, q1.mono (by omega), (((((g1.trans g2).trans g3).trans g4).trans g5).trans g6).trans q2⟩
  unfold F_l_one_right
  rw [fnM_ap _ _ _ _ _ (by rfl)]
  refine (congrArg fK (?_ : _ = Out.rt (.bl true) S')).trans rfl
  refine seq1 (r1 := [some (.loc p), some (.int t), some (.int u), none, none, none, none, none]) (S1 := S4) ?_ (seq1 (r1 := [some (.loc p), some (.int t), some (.int u), some (St t u), some (.int g), none, none, none]) (S1 := S6) ?_ h)
  · repeat (first | walk_at "ev" | simp only [pw6, e1, e2, e3, e4])
  · repeat (first | walk_at "ev" | simp only [hm, e5, e6])
/-! the law -/
theorem mLc_draws {k : Nat} {r : Fa.Env} {p : Nat} {S : Sto} {c m : Nat} {F : List D → M D} (hk : k ≤ 40) (hr : ∃ x y z, r = [x, y, some (.loc p), z]) (hp : Pot p S c) (hc : c + 40 * m ≤ 10000)
    (hF : ∀ (T : Sto) (n : Nat), Pot p T n → n ≤ 10000 → ∃ T', F [.loc p] T = .ok (.bl true) T' ∧ Pot p T' (n + m) ∧ Grw p T T') :
    ∃ S', mA allD (mCons (mLc (mRng1 (mCons (mC (.int k)) mNil)) (gN 3) tT (mA F (mCons (mVar 2) mNil)) [3]) mNil) r S = .ok (.bl true) S' ∧ Pot p S' (c + k * m) ∧ Grw p S S' := by
  obtain ⟨x, y, z, rfl⟩ := hr
  have hnp : S.length ≠ p := Nat.ne_of_gt hp.lt
  obtain ⟨S', h1, h2, h3, h4⟩ := lc_draw (src := .rng 0 k) k (.bl true) (fun i => .int (0 + (i : Int))) (g := gN 3) (t := tT) (e := mA F (mCons (mVar 2) mNil)) (r := [x, y, some (.loc p), none]) (n := S.length) (fun i T => Pot p T (c + i * m) ∧ Grw p S T ∧ S.length < T.length) (fun i T _ => next_rng _ _ _ _) (fun i T hi hI => by
      obtain ⟨i1, i2, i3⟩ := hI
      have hle : i * m ≤ 40 * m := Nat.mul_le_mul_right _ (by omega)
      obtain ⟨T', f1, f2, f3⟩ := hF T _ i1 (by omega)
      refine ⟨[x, y, some (.loc p), some (.int (0 + (i : Int)))], T', rfl, rfl, ?_, f3.2 _ hnp i3, ?_, i2.trans f3, Nat.lt_of_lt_of_le i3 f3.1⟩
      · repeat (first | walk_at "ev" | simp only [f1])
      · rw [Nat.succ_mul, ← Nat.add_assoc]
        exact f2) (fun i T o hI => by
      obtain ⟨i1, i2, i3⟩ := hI
      refine ⟨i1.off hnp, ⟨by rw [List.length_set]; exact i2.1, fun j hj hl => ?_⟩, by rw [List.length_set]; exact i3⟩
      rw [List.getElem?_set_ne (Nat.ne_of_gt hl)]
      exact i2.2 j hj hl) (Nat.le_trans hk (by rw [sizeLine_eq]; decide)) (S := S ++ [.lst []]) ⟨by rw [Nat.zero_mul]; exact hp.app _, Grw.app p S _, by simp⟩ (at_end _ _)
  refine ⟨S', ?_, h3, h4.1⟩
  have hr1 : rngOf1 [.int (k : Int)] S = .ok (.rng 0 k) S := rng1_i (by omega) (by omega) S
  have hl : mLc (mRng1 (mCons (mC (.int k)) mNil)) (gN 3) tT (mA F (mCons (mVar 2) mNil)) [3] [x, y, some (.loc p), z] S = .ok (.loc S.length) S' := by
    unfold mLc
    rw [bnd_ap, mRng1_ap, mCons_ap, mC_ap, bK_ok, kCons_ap, mNil_ap, bK_ok, kCon_ap, bK_ok, hr1, bK_ok]
    exact h1
  have al := all_rep h2
  repeat (first | walk_at "ev" | simp only [hl, al])
theorem turn_ok (ns : List Int) (i : Nat) (hi : i < 3) (S : Sto) (x y : Option D) : ∃ S', (sSeq (sAs (mA F_l_pot (mCons (mVar 0) (mCons (mVar 1) mNil))) (gN 2))
    (sIf (Fa.tOr (tNt (tOf (mA allD (mCons (mLc (mRng1 (mCons (mC (.int 40)) mNil)) (gN 3) tT (mA F_l_one_right (mCons (mVar 2) mNil)) [3]) mNil)))) (tNt (tOf (mA allD (mCons (mLc (mRng1 (mCons (mC (.int 30)) mNil)) (gN 3) tT (mA F_l_right (mCons (mVar 2) mNil)) [3]) mNil))))) (sRet (mC (.bl false))) sNx))
    [some (.rls (ns.map D.int)), some (.int (0 + (i : Int))), x, y] S = .nx [some (.rls (ns.map D.int)), some (.int (0 + (i : Int))), some (.loc S.length), y] S' := by
  obtain ⟨a, b, e, a0, b0, b1⟩ := pot_ok ns i hi S
  have hp : Pot S.length (S ++ [.lst [.int a, .int b, .int 0]]) 0 := ⟨a, b, 0, at_end _ _, a0, b0, b1, by decide, by decide⟩
  rw [Int.zero_add]
  obtain ⟨S1, h1, p1, g1⟩ := mLc_draws (k := 40) (m := 10) (r := [some (.rls (ns.map D.int)), some (.int (i : Int)), some (.loc S.length), y]) (by decide) ⟨_, _, _, rfl⟩ hp (by decide) (fun T n hT hn => one_ok hT (by omega))
  obtain ⟨S2, h2, p2, g2⟩ := mLc_draws (k := 30) (m := 20) (r := [some (.rls (ns.map D.int)), some (.int (i : Int)), some (.loc S.length), y]) (by decide) ⟨_, _, _, rfl⟩ p1 (by decide) (fun T n hT hn => right_ok hT hn)
  refine ⟨S2, ?_⟩
  refine seq1 (r1 := [some (.rls (ns.map D.int)), some (.int (i : Int)), some (.loc S.length), y]) (S1 := S ++ [.lst [.int a, .int b, .int 0]]) ?_ ?_
  · repeat (first | walk_at "ev" | simp only [e])
  · have h1' := h1
    rw [show ((40 : Nat) : Int) = 40 from rfl] at h1'
    have h2' := h2
    rw [show ((30 : Nat) : Int) = 30 from rfl] at h2'
    rw [sIf_ap, tOr_ap, tNt_ap, tOf_ap, h1']
    rw [bK_ok, isBl_ap, bK_ok, kNt_ap, bK_ok, Bool.not_true, kOr_f, tNt_ap, tOf_ap, h2']
    rfl
theorem law_true : ∀ ns : List Int, ns.length ≤ 63 → ∃ S, F_law [.rls (ns.map D.int)] [] = .ok (.bl true) S := by
  intro ns hl
  obtain ⟨k, hk, hk3⟩ : ∃ k : Nat, (if (if (ns.length : Int) < 3 then (ns.length : Int) else 3) > 1 then (if (ns.length : Int) < 3 then (ns.length : Int) else 3) else 1) = (k : Int) ∧ k ≤ 3 := by
    by_cases h1 : (ns.length : Int) < 3
    · rw [if_pos h1]
      by_cases h2 : (ns.length : Int) > 1
      · exact ⟨ns.length, if_pos h2, by omega⟩
      · exact ⟨1, if_neg h2, by omega⟩
    · rw [if_neg h1]
      exact ⟨3, rfl, by omega⟩
  have hr1 : rngOf1 [.int (k : Int)] [] = .ok (.rng 0 k) [] := rng1_i (by omega) (by omega) []
  have hm : mRng1 (mCons (mA maxD (mCons (mC (.int 1)) (mCons (mA minD (mCons (mC (.int 3)) (mCons (mA lenD (mCons (mVar 0) mNil)) mNil))) mNil))) mNil) [some (.rls (ns.map D.int)), none, none, none] [] = .ok (.rng 0 k) [] := by
    repeat (first | walk_at "ev" | simp only [List.length_map, hk, hr1])
  obtain ⟨r', S', hf, hI⟩ := sFor_inv k (fun i => .int (0 + (i : Int))) (g := gN 1) (b := sSeq (sAs (mA F_l_pot (mCons (mVar 0) (mCons (mVar 1) mNil))) (gN 2))
    (sIf (Fa.tOr (tNt (tOf (mA allD (mCons (mLc (mRng1 (mCons (mC (.int 40)) mNil)) (gN 3) tT (mA F_l_one_right (mCons (mVar 2) mNil)) [3]) mNil)))) (tNt (tOf (mA allD (mCons (mLc (mRng1 (mCons (mC (.int 30)) mNil)) (gN 3) tT (mA F_l_right (mCons (mVar 2) mNil)) [3]) mNil))))) (sRet (mC (.bl false))) sNx))
    (fun i r _ => ∃ x y z, r = [some (.rls (ns.map D.int)), x, y, z]) hm rfl (fun i r T _ => next_rng _ _ _ _) (fun i r T hi hI => by
      obtain ⟨x, y, z, rfl⟩ := hI
      obtain ⟨T', hT⟩ := turn_ok ns i (by omega) T y z
      exact ⟨_, T, _, T', rfl, .inl hT, _, _, _, rfl⟩) ⟨none, none, none, rfl⟩
  refine ⟨S', ?_⟩
  unfold F_law
  rw [fnM_ap _ _ _ _ _ (by rfl)]
  refine (congrArg fK (?_ : _ = Out.rt (.bl true) S')).trans rfl
  exact seq1 hf rfl
end Lw
open PySem PySem.W PyProof.Rows
set_option maxHeartbeats 0 in
theorem PySem.Challenge.cw_farasnothing_k11_whole_stamps_in_order_holds : PySem.Challenge.rw_farasnothing_k11_whole_stamps_in_order.Holds := by
  w_on; o_law; k_head; (case hw => w_witness2)
  k_fill
  refine Fa.law_walk (l := PySem.Challenge.rw_farasnothing_k11_whole_stamps_in_order) (n := 63) (k := 7) (x := "_law_script") rfl (by decide) rfl ⟨rfl, by decide, by decide⟩ (fun w h Y => PySem.W.kIn_of Y) ?F
  case F =>
    intro w mg fa h KX G hmg
    refine' Lw.all_mk KX G ?a_is_count ?l_is_count ?k1_is_count ?k2_is_count ?a_is_stamp ?l_is_stamp ?k1_is_stamp ?k2_is_stamp ?a_later_of ?l_later_of ?k1_later_of ?k2_later_of ?a_check_both ?l_check_both ?k1_check_both ?k2_check_both ?a_later ?l_later ?k1_later ?k2_later ?a_ahead_of ?l_ahead_of ?k1_ahead_of ?k2_ahead_of ?a_l_pot ?l_l_pot ?k1_l_pot ?k2_l_pot ?a_l_take ?l_l_take ?k1_l_take ?k2_l_take ?a_l_of ?l_l_of ?k1_l_of ?k2_l_of ?a_l_moment ?l_l_moment ?k1_l_moment ?k2_l_moment ?a_l_beside ?l_l_beside ?k1_l_beside ?k2_l_beside ?a_l_later ?l_l_later ?k1_l_later ?k2_l_later ?a_l_ahead ?l_l_ahead ?k1_l_ahead ?k2_l_ahead ?a_l_near ?l_l_near ?k1_l_near ?k2_l_near ?a_l_one_right ?l_l_one_right ?k1_l_one_right ?k2_l_one_right ?a_l_pair_right ?l_l_pair_right ?k1_l_pair_right ?k2_l_pair_right ?a_l_right ?l_l_right ?k1_l_right ?k2_l_right ?a_law ?l_law ?k1_law ?k2_law ?y_abs ?y_all ?y_bool ?y_int ?y_isinstance ?y_len ?y_max ?y_min ?y_range ?y_repr ?y_tuple ?y_PARTS Lw.law_true hmg
    (case a_is_count => k_is); (case l_is_count => k_is); (case k1_is_count => k_is); (case k2_is_count => k_is); (case a_is_stamp => k_is); (case l_is_stamp => k_is); (case k1_is_stamp => k_is); (case k2_is_stamp => k_is); (case a_later_of => k_is); (case l_later_of => k_is); (case k1_later_of => k_is); (case k2_later_of => k_is); (case a_check_both => k_is); (case l_check_both => k_is); (case k1_check_both => k_is); (case k2_check_both => k_is); (case a_later => k_is); (case l_later => k_is); (case k1_later => k_is); (case k2_later => k_is); (case a_ahead_of => k_is); (case l_ahead_of => k_is); (case k1_ahead_of => k_is); (case k2_ahead_of => k_is); (case a_l_pot => k_is); (case l_l_pot => k_is); (case k1_l_pot => k_is); (case k2_l_pot => k_is); (case a_l_take => k_is); (case l_l_take => k_is); (case k1_l_take => k_is); (case k2_l_take => k_is); (case a_l_of => k_is); (case l_l_of => k_is); (case k1_l_of => k_is); (case k2_l_of => k_is); (case a_l_moment => k_is); (case l_l_moment => k_is); (case k1_l_moment => k_is); (case k2_l_moment => k_is); (case a_l_beside => k_is); (case l_l_beside => k_is); (case k1_l_beside => k_is); (case k2_l_beside => k_is); (case a_l_later => k_is); (case l_l_later => k_is); (case k1_l_later => k_is); (case k2_l_later => k_is); (case a_l_ahead => k_is); (case l_l_ahead => k_is); (case k1_l_ahead => k_is); (case k2_l_ahead => k_is); (case a_l_near => k_is); (case l_l_near => k_is); (case k1_l_near => k_is); (case k2_l_near => k_is); (case a_l_one_right => k_is); (case l_l_one_right => k_is); (case k1_l_one_right => k_is); (case k2_l_one_right => k_is); (case a_l_pair_right => k_is); (case l_l_pair_right => k_is); (case k1_l_pair_right => k_is); (case k2_l_pair_right => k_is); (case a_l_right => k_is); (case l_l_right => k_is); (case k1_l_right => k_is); (case k2_l_right => k_is); (case a_law => k_is); (case l_law => k_is); (case k1_law => k_is); (case k2_law => k_is); (case y_abs => k_is); (case y_all => k_is); (case y_bool => k_is); (case y_int => k_is); (case y_isinstance => k_is); (case y_len => k_is); (case y_max => k_is); (case y_min => k_is); (case y_range => k_is); (case y_repr => k_is); (case y_tuple => k_is); (case y_PARTS => k_is)
