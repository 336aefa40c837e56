import PyProof.Rows.All
import Wide.All
import OpenK.AllK
import Wide.FinOn
import HandS.ForMost
import HandS.WordsExc
import HandS.NoneIn
import HandS.TupAny
import HandS.Deep
import HandS.Gcd
import HandS.Wide
import HandS.Flow
import HandS.Style
import KE.DataCmp
import HandS.Conv
import HandS.Defaults
import HandS.HeadHook2
import HandS.Zip
import HandS.More
import KE.GoesEnum
import KE.GoesMore
import KE.SortData
import KE.DataMinMax
import PyProof.SeqIndex
import PyProof.ReprRoads
import HandS.HeadEnd
import HandS.Head3
import HandS.HeadHook4
import HandS.SetBool
import HandS.TupSets
import PySem.Challenge.RW_leastfield_k77_high_points_gates_and_reg
section
set_option Elab.async false
set_option linter.all false
set_option maxRecDepth 100000
/-! PL1: plain data over the hand layer: values without a heap, outcomes, how a heap bears them. -/
namespace PL
open PySem PySem.Spec PyProof.Rows L2

/-- a value, whole -/
inductive D where
  | non | bl (b : Bool) | int (i : Int) | str (x : Str) | tup (k : Bool) (l : List D) | lst (l : List D)
  | dic (t : Bool) (l : List (D × D)) | ins (c : Str) (fs : List (Str × D)) | deal | dealL | scr (l : List Int)

/-- where draws come from -/
structure Dl where
  ds : List Int
  mix : Int

inductive Out (α : Type) where
  | ok (a : α) (s : Dl)
  | exc (c : Str) (a : List D) (s : Dl)
  | bad

def M (α : Type) : Type := Dl → Out α
def M.pure {α : Type} (a : α) : M α := fun s => .ok a s
def M.bind {α β : Type} (m : M α) (f : α → M β) : M β := fun s => match m s with
  | .ok a s' => f a s'
  | .exc c l s' => .exc c l s'
  | .bad => .bad
instance : Monad M where
  pure := M.pure
  bind := M.bind
def fail {α : Type} : M α := fun _ => .bad
theorem M.ext {α : Type} {m n : M α} (h : ∀ s, m s = n s) : m = n := funext h
@[simp] theorem pure_run {α : Type} (a : α) (s : Dl) : (pure a : M α) s = .ok a s := id rfl
theorem bind_run {α β : Type} (m : M α) (f : α → M β) (s : Dl) : (m >>= f) s = match m s with
  | .ok a s' => f a s'
  | .exc c l s' => .exc c l s'
  | .bad => .bad := rfl
@[simp] theorem fail_run {α : Type} (s : Dl) : (fail : M α) s = .bad := id rfl
@[simp] theorem pure_bind' {α β : Type} (a : α) (f : α → M β) : ((pure a : M α) >>= f) = f a := id rfl
@[simp] theorem fail_bind {α β : Type} (f : α → M β) : ((fail : M α) >>= f) = fail := id rfl
theorem bind_assoc' {α β γ : Type} (m : M α) (f : α → M β) (g : β → M γ) : ((m >>= f) >>= g) = (m >>= fun a => f a >>= g) := by
  funext s
  simp only [bind_run]
  cases m s <;> rfl
theorem bind_pure' {α : Type} (m : M α) : (m >>= fun a => (pure a : M α)) = m := by
  funext s
  simp only [bind_run]
  cases m s <;> rfl
theorem bind_ok {α β : Type} {m : M α} {f : α → M β} {s s' : Dl} {a : α} (h : m s = .ok a s') : (m >>= f) s = f a s' := by rw [bind_run, h]

/-- what one knows of a def's names -/
inductive Slot where
  | un | im (d : D) | mu (l : List D) | md (t : Bool) (l : List (D × D))
abbrev PEnv := List Slot

/-! ### how a heap bears a datum -/
def keyD : Key → D
  | .inl i => .int i
  | .inr x => .str x
def tupD (k : List Key) : D := .tup false (k.map keyD)
/-- a tuple of the module's own -/
def StT (K : PySem.W.Frag) (a : Addr) (xs : List V) : Prop :=
  ∃ (o : Obj) (its : Array Value) (n : Nat), K.lookup a = some o ∧ o.dict = none ∧ o.cls = .type "tuple" ∧ o.data = .seq its n ∧ its.size ≤ sizeLine ∧ Vals xs its.toList
/-- .. or one whose object is known -/
def FtT (K : PySem.W.Frag) (H : Hp) (a : Addr) (xs : List V) : Prop := StT K a xs ∨ ∃ o : Obj, o.dict = none ∧ H a = some (.frz o (.tup xs))
theorem FtT.sq {K : PySem.W.Frag} {H : Hp} {a : Addr} {xs : List V} (h : FtT K H a xs) : SqT K H a xs := by
  rcases h with ⟨o, its, n, h1, _, h2⟩ | ⟨o, _, h⟩
  · exact .inr ⟨o, its, n, h1, h2⟩
  · exact .inl (.inr ⟨o, h⟩)
/-- a list that nobody writes to -/
def FrL (K : PySem.W.Frag) (H : Hp) (a : Addr) (xs : List V) : Prop := (∃ o : Obj, H a = some (.frz o (.lst xs))) ∨
  ∃ (o : Obj) (its : Array Value) (n : Nat), K.lookup a = some o ∧ o.cls = .type "list" ∧ o.dict = none ∧ o.data = .seq its n ∧ its.size ≤ sizeLine ∧ Vals xs its.toList
theorem FrL.sq {K : PySem.W.Frag} {H : Hp} {a : Addr} {xs : List V} (h : FrL K H a xs) : SqL K H a xs := h.elim (fun ⟨o, h⟩ => .inl (.inr ⟨o, h⟩)) .inr
structure Ev where
  K : PySem.W.Frag
  C : Str → Addr
  p : Addr
  q : Addr
  /-- there is a deal -/
  on : Bool

section
variable (E : Ev) (Mv : Addr → Prop) (H : Hp)
mutual
inductive Rep : V → D → Prop
  | non : Rep .non .non
  | bl (b : Bool) : Rep (.bl b) (.bl b)
  | int (i : Int) : Rep (.int i) (.int i)
  | str (x : Str) : Rep (.str x) (.str x)
  | tup {a : Addr} {vs : List V} {ds : List D} : H a = some (.tup vs) → RepA vs ds → Rep (.ref a) (.tup false ds)
  | tupK {a : Addr} {vs : List V} {ds : List D} : FtT E.K H a vs → RepA vs ds → Rep (.ref a) (.tup true ds)
  | lst {a : Addr} {vs : List V} {ds : List D} : H a = some (.lst vs) → ¬ Mv a → RepA vs ds → Rep (.ref a) (.lst ds)
  | dk {a : Addr} {ks : List (Key × V)} {l : List (D × D)} : H a = some (.dK ks) → ¬ Mv a → ks.map (fun k => keyD k.1) = l.map (·.1) → RepA (ks.map (·.2)) (l.map (·.2)) → Rep (.ref a) (.dic false l)
  | dt {a : Addr} {ks : List (List Key × V)} {l : List (D × D)} : H a = some (.dT ks) → ¬ Mv a → ks.map (fun k => tupD k.1) = l.map (·.1) → RepA (ks.map (·.2)) (l.map (·.2)) → Rep (.ref a) (.dic true l)
  | ins {a dx : Addr} {c : Str} {fvs : List (Str × V)} {fs : List (Str × D)} : H a = some (.ins (E.C c) dx fvs) → ¬ Mv a → fvs.map (·.1) = fs.map (·.1) → RepA (fvs.map (·.2)) (fs.map (·.2)) → Rep (.ref a) (.ins c fs)
  | deal : E.on = true → Rep (.ref E.p) .deal
  | dealL : E.on = true → Rep (.ref E.q) .dealL
  | scr {a : Addr} {l : List Int} : FrL E.K H a (l.map V.int) → Rep (.ref a) (.scr l)
inductive RepA : List V → List D → Prop
  | nil : RepA [] []
  | cons {v : V} {vs : List V} {d : D} {ds : List D} : Rep v d → RepA vs ds → RepA (v :: vs) (d :: ds)
end
end

/-- all that is tracked outside a lot of addresses is kept -/
def Ext (Mv : Addr → Prop) (H H' : Hp) : Prop := ∀ b o, H b = some o → ¬ Mv b → H' b = some o
/-- what is written in place -/
def Wr : HO → Prop
  | .lst _ => True
  | .dK _ => True
  | .dT _ => True
  | _ => False
def MOk (Mv : Addr → Prop) (H : Hp) : Prop := ∀ b, Mv b → ∃ o, H b = some o ∧ Wr o
theorem MOk.tr {Mv : Addr → Prop} {H : Hp} {b : Addr} (h : MOk Mv H) (m : Mv b) : H b ≠ none := by
  obtain ⟨o, e, _⟩ := h b m
  rw [e]
  exact fun z => nomatch z
theorem Ext.refl {Mv : Addr → Prop} {H : Hp} : Ext Mv H H := fun _ _ e _ => e
theorem Ext.mono {Mv Mw : Addr → Prop} {H H' : Hp} (h : Ext Mv H H') (k : ∀ a, Mv a → Mw a) : Ext Mw H H' := fun b o e n => h b o e fun z => n (k b z)
theorem Ext.trans {Mv : Addr → Prop} {H H1 H2 : Hp} (a : Ext Mv H H1) (b : Ext Mv H1 H2) : Ext Mv H H2 := fun c o e n => b c o (a c o e n) n
theorem Ext.same {Mv : Addr → Prop} {H H' : Hp} (h : Same H H') : Ext Mv H H' := fun b o e _ => h b o e
theorem Ext.laid {Mv : Addr → Prop} {H : Hp} {p : Addr} {o : HO} (hp : H p = none) : Ext Mv H (upd H p o) := fun b u e _ => by rw [upd_ne (ne_of_none e hp)]; exact e

section
variable {E : Ev} {Mv Mw : Addr → Prop} {H H' : Hp}
mutual
theorem Rep.mono (k : ∀ a, Mw a → Mv a) : ∀ {v : V} {d : D}, Rep E Mv H v d → Rep E Mw H v d
  | _, _, .non => .non
  | _, _, .bl b => .bl b
  | _, _, .int i => .int i
  | _, _, .str x => .str x
  | _, _, .tup h r => .tup h (RepA.mono k r)
  | _, _, .tupK h r => .tupK h (RepA.mono k r)
  | _, _, .lst h n r => .lst h (fun z => n (k _ z)) (RepA.mono k r)
  | _, _, .dk h n e r => .dk h (fun z => n (k _ z)) e (RepA.mono k r)
  | _, _, .dt h n e r => .dt h (fun z => n (k _ z)) e (RepA.mono k r)
  | _, _, .ins h n e r => .ins h (fun z => n (k _ z)) e (RepA.mono k r)
  | _, _, .deal o => .deal o
  | _, _, .dealL o => .dealL o
  | _, _, .scr h => .scr h
theorem RepA.mono (k : ∀ a, Mw a → Mv a) : ∀ {vs : List V} {ds : List D}, RepA E Mv H vs ds → RepA E Mw H vs ds
  | _, _, .nil => .nil
  | _, _, .cons r t => .cons (Rep.mono k r) (RepA.mono k t)
end
theorem Rd.ext (x : Ext Mv H H') {a : Addr} {o : HO} (h : Rd H a o) (n : ¬ Mv a) : Rd H' a o := by
  rcases h with h | ⟨u, h⟩
  · exact .inl (x _ _ h n)
  · exact .inr ⟨u, x _ _ h n⟩
theorem notMut (k : MOk Mv H) {a : Addr} {vs : List V} (h : Rd H a (.tup vs)) : ¬ Mv a := fun z => by
  obtain ⟨o, e, w⟩ := k a z
  rcases h with h | ⟨u, h⟩
  · rw [h] at e; cases e; exact w
  · rw [h] at e; cases e; exact w
theorem FtT.ext {K : PySem.W.Frag} (x : Ext Mv H H') (k : MOk Mv H) {a : Addr} {vs : List V} (h : FtT K H a vs) : FtT K H' a vs := by
  rcases h with h | ⟨o, h1, h2⟩
  · exact .inl h
  · refine .inr ⟨o, h1, x _ _ h2 fun z => ?_⟩
    obtain ⟨u, e, w⟩ := k a z
    rw [h2] at e
    cases e
    exact w
theorem FrL.ext {K : PySem.W.Frag} (x : Ext Mv H H') (k : MOk Mv H) {a : Addr} {vs : List V} (h : FrL K H a vs) : FrL K H' a vs := by
  rcases h with ⟨o, h⟩ | h
  · refine .inl ⟨o, x _ _ h fun z => ?_⟩
    obtain ⟨u, e, w⟩ := k a z
    rw [h] at e
    cases e
    exact w
  · exact .inr h
theorem SqT.ext {K : PySem.W.Frag} (x : Ext Mv H H') (k : MOk Mv H) {a : Addr} {vs : List V} (h : SqT K H a vs) : SqT K H' a vs := by
  rcases h with h | h
  · exact .inl (Rd.ext x h (notMut k h))
  · exact .inr h
mutual
theorem Rep.extS (x : Ext Mw H H') (k : MOk Mw H) (sub : ∀ a, Mw a → Mv a) : ∀ {v : V} {d : D}, Rep E Mv H v d → Rep E Mv H' v d
  | _, _, .non => .non
  | _, _, .bl b => .bl b
  | _, _, .int i => .int i
  | _, _, .str x => .str x
  | _, _, .tup h r => .tup (x _ _ h (notMut k (.inl h))) (RepA.extS x k sub r)
  | _, _, .tupK h r => .tupK (FtT.ext x k h) (RepA.extS x k sub r)
  | _, _, .lst h n r => .lst (x _ _ h fun z => n (sub _ z)) n (RepA.extS x k sub r)
  | _, _, .dk h n e r => .dk (x _ _ h fun z => n (sub _ z)) n e (RepA.extS x k sub r)
  | _, _, .dt h n e r => .dt (x _ _ h fun z => n (sub _ z)) n e (RepA.extS x k sub r)
  | _, _, .ins h n e r => .ins (x _ _ h fun z => n (sub _ z)) n e (RepA.extS x k sub r)
  | _, _, .deal o => .deal o
  | _, _, .dealL o => .dealL o
  | _, _, .scr h => .scr (FrL.ext x k h)
theorem RepA.extS (x : Ext Mw H H') (k : MOk Mw H) (sub : ∀ a, Mw a → Mv a) : ∀ {vs : List V} {ds : List D}, RepA E Mv H vs ds → RepA E Mv H' vs ds
  | _, _, .nil => .nil
  | _, _, .cons r t => .cons (Rep.extS x k sub r) (RepA.extS x k sub t)
end
theorem Rep.ext (x : Ext Mv H H') (k : MOk Mv H) {v : V} {d : D} (h : Rep E Mv H v d) : Rep E Mv H' v d := h.extS x k fun _ z => z
theorem RepA.ext (x : Ext Mv H H') (k : MOk Mv H) {vs : List V} {ds : List D} (h : RepA E Mv H vs ds) : RepA E Mv H' vs ds := h.extS x k fun _ z => z
mutual
theorem Rep.fresh : ∀ {v : V} {d : D}, Rep E Mv H v d → Rep E (fun a => Mv a ∨ H a = none) H v d
  | _, _, .non => .non
  | _, _, .bl b => .bl b
  | _, _, .int i => .int i
  | _, _, .str x => .str x
  | _, _, .tup h r => .tup h (RepA.fresh r)
  | _, _, .tupK h r => .tupK h (RepA.fresh r)
  | _, _, .lst h n r => .lst h (fun z => z.elim n fun q => by rw [q] at h; cases h) (RepA.fresh r)
  | _, _, .dk h n e r => .dk h (fun z => z.elim n fun q => by rw [q] at h; cases h) e (RepA.fresh r)
  | _, _, .dt h n e r => .dt h (fun z => z.elim n fun q => by rw [q] at h; cases h) e (RepA.fresh r)
  | _, _, .ins h n e r => .ins h (fun z => z.elim n fun q => by rw [q] at h; cases h) e (RepA.fresh r)
  | _, _, .deal o => .deal o
  | _, _, .dealL o => .dealL o
  | _, _, .scr h => .scr h
theorem RepA.fresh : ∀ {vs : List V} {ds : List D}, RepA E Mv H vs ds → RepA E (fun a => Mv a ∨ H a = none) H vs ds
  | _, _, .nil => .nil
  | _, _, .cons r t => .cons (Rep.fresh r) (RepA.fresh t)
end
theorem RepA.length : ∀ {vs : List V} {ds : List D}, RepA E Mv H vs ds → vs.length = ds.length
  | _, _, .nil => rfl
  | _, _, .cons _ t => congrArg (· + 1) (RepA.length t)
theorem RepA.get : ∀ {vs : List V} {ds : List D} {i : Nat} {d : D}, RepA E Mv H vs ds → ds[i]? = some d → ∃ v, vs[i]? = some v ∧ Rep E Mv H v d
  | _, _, _, _, .nil, e => by simp at e
  | _, _, 0, d, .cons r _, e => by simp at e; subst e; exact ⟨_, rfl, r⟩
  | _, _, i + 1, d, .cons _ t, e => by
    obtain ⟨v, h1, h2⟩ := RepA.get (i := i) (d := d) t (by simpa using e)
    exact ⟨v, by simpa using h1, h2⟩
theorem RepA.getV : ∀ {vs : List V} {ds : List D} {i : Nat} {v : V}, RepA E Mv H vs ds → vs[i]? = some v → ∃ d, ds[i]? = some d ∧ Rep E Mv H v d
  | _, _, _, _, .nil, e => by simp at e
  | _, _, 0, d, .cons r _, e => by simp at e; subst e; exact ⟨_, rfl, r⟩
  | _, _, i + 1, d, .cons _ t, e => by
    obtain ⟨v, h1, h2⟩ := RepA.getV (i := i) (v := d) t (by simpa using e)
    exact ⟨v, by simpa using h1, h2⟩
theorem RepA.append : ∀ {vs us : List V} {ds es : List D}, RepA E Mv H vs ds → RepA E Mv H us es → RepA E Mv H (vs ++ us) (ds ++ es)
  | _, _, _, _, .nil, s => s
  | _, _, _, _, .cons r t, s => .cons r (RepA.append t s)
theorem RepA.take : ∀ {vs : List V} {ds : List D} (n : Nat), RepA E Mv H vs ds → RepA E Mv H (vs.take n) (ds.take n)
  | _, _, 0, _ => .nil
  | _, _, _ + 1, .nil => .nil
  | _, _, n + 1, .cons r t => .cons r (RepA.take n t)
theorem RepA.drop : ∀ {vs : List V} {ds : List D} (n : Nat), RepA E Mv H vs ds → RepA E Mv H (vs.drop n) (ds.drop n)
  | _, _, 0, r => r
  | _, _, _ + 1, .nil => .nil
  | _, _, n + 1, .cons _ t => RepA.drop n t
theorem RepA.set {x : V} {d : D} (r : Rep E Mv H x d) : ∀ {xs : List V} {us : List D} (i : Nat), RepA E Mv H xs us → RepA E Mv H (xs.set i x) (us.set i d)
  | _, _, _, .nil => .nil
  | _, _, 0, .cons _ t => .cons r t
  | _, _, i + 1, .cons q t => .cons q (RepA.set r i t)
theorem RepA.reverse : ∀ {vs : List V} {ds : List D}, RepA E Mv H vs ds → RepA E Mv H vs.reverse ds.reverse
  | _, _, .nil => .nil
  | _, _, .cons r t => by
    rw [List.reverse_cons, List.reverse_cons]
    exact RepA.append (RepA.reverse t) (.cons r .nil)
end

/-! ### the deal -/
structure DealAt (E : Ev) (H : Hp) (s : Dl) : Prop where
  p : E.on = true → H E.p = some (.lst [.ref E.q, .int s.mix])
  q : E.on = true → H E.q = some (.lst (s.ds.map V.int))
def Dm (E : Ev) : Addr → Prop := fun a => E.on = true ∧ (a = E.p ∨ a = E.q)

/-! ### names -/
def Own (M0 : Addr → Prop) (A : Nat → Option Addr) : Addr → Prop := fun a => M0 a ∨ ∃ i, A i = some a
/-- a dict at a bears pairs -/
inductive DicAt (E : Ev) (Mv : Addr → Prop) (H : Hp) (a : Addr) : Bool → List (D × D) → Prop
  | k {ks : List (Key × V)} {l : List (D × D)} : H a = some (.dK ks) → ks.map (fun k => keyD k.1) = l.map (·.1) → RepA E Mv H (ks.map (·.2)) (l.map (·.2)) → DicAt E Mv H a false l
  | t {ks : List (List Key × V)} {l : List (D × D)} : H a = some (.dT ks) → ks.map (fun k => tupD k.1) = l.map (·.1) → RepA E Mv H (ks.map (·.2)) (l.map (·.2)) → DicAt E Mv H a true l
theorem DicAt.ext {E : Ev} {Mv : Addr → Prop} {H H' : Hp} {a : Addr} {t : Bool} {l : List (D × D)} (x : Ext Mv H H') (m : MOk Mv H) (keep : H' a = H a) (h : DicAt E Mv H a t l) : DicAt E Mv H' a t l := by
  cases h with
  | k h1 h2 h3 => exact .k (keep.trans h1) h2 (h3.ext x m)
  | t h1 h2 h3 => exact .t (keep.trans h1) h2 (h3.ext x m)

def SlotAt (E : Ev) (Mv : Addr → Prop) (H : Hp) (own : Option Addr) (x : Option (Option V)) : Slot → Prop
  | .un => own = none
  | .im d => own = none ∧ ∃ v, x = some (some v) ∧ Rep E Mv H v d
  | .mu l => ∃ a vs, own = some a ∧ x = some (some (.ref a)) ∧ H a = some (.lst vs) ∧ RepA E Mv H vs l
  | .md t l => ∃ a, own = some a ∧ x = some (some (.ref a)) ∧ DicAt E Mv H a t l

structure ER (E : Ev) (M0 : Addr → Prop) (A : Nat → Option Addr) (H : Hp) (σ : L2.St) (ρ : PEnv) : Prop where
  mp : E.on = true → M0 E.p
  mq : E.on = true → M0 E.q
  own : ∀ i a, A i = some a → ¬ M0 a
  inj : ∀ i j a, A i = some a → A j = some a → i = j
  mok : MOk (Own M0 A) H
  len : ρ.length = σ.length
  at_ : ∀ i x, ρ[i]? = some x → SlotAt E (Own M0 A) H (A i) (σ[i]?) x

theorem SlotAt.ext {E : Ev} {Mv : Addr → Prop} {H H' : Hp} {own : Option Addr} {x : Option (Option V)} (e : Ext Mv H H') (m : MOk Mv H) (keep : ∀ a, own = some a → H' a = H a) :
    ∀ {s : Slot}, SlotAt E Mv H own x s → SlotAt E Mv H' own x s
  | .un, h => h
  | .im d, ⟨h, v, e1, r⟩ => ⟨h, v, e1, r.ext e m⟩
  | .mu l, ⟨a, vs, e1, e2, e3, r⟩ => ⟨a, vs, e1, e2, (keep a e1).trans e3, r.ext e m⟩
  | .md t l, ⟨a, e1, e2, h⟩ => ⟨a, e1, e2, h.ext e m (keep a e1)⟩

section
variable {E : Ev} {M0 : Addr → Prop} {A : Nat → Option Addr} {H H' : Hp} {σ : L2.St} {ρ : PEnv} {s s' : Dl}
theorem ER.dm (R : ER E M0 A H σ ρ) : ∀ a, Dm E a → Own M0 A a := fun a h => .inl (by
  rcases h with ⟨o, rfl | rfl⟩
  · exact R.mp o
  · exact R.mq o)
theorem ER.ndm (R : ER E M0 A H σ ρ) {i : Nat} {a : Addr} (h : A i = some a) : ¬ Dm E a := fun z => R.own i a h (by
  rcases z with ⟨o, rfl | rfl⟩
  · exact R.mp o
  · exact R.mq o)
/-- behind an expression: all but the deal is kept -/
theorem ER.ext (R : ER E M0 A H σ ρ) (x : Ext (Dm E) H H') (dl : DealAt E H' s') : ER E M0 A H' σ ρ := by
  have mok : MOk (Own M0 A) H' := fun b m => by
    by_cases hb : Dm E b
    · rcases hb with ⟨o, rfl | rfl⟩
      · exact ⟨_, dl.p o, trivial⟩
      · exact ⟨_, dl.q o, trivial⟩
    · obtain ⟨o, e, w⟩ := R.mok b m
      exact ⟨o, x b o e hb, w⟩
  refine ⟨R.mp, R.mq, R.own, R.inj, mok, R.len, fun i y e => (R.at_ i y e).ext (x.mono R.dm) R.mok fun a ha => ?_⟩
  obtain ⟨o, e1, _⟩ := R.mok a (.inr ⟨i, ha⟩)
  rw [e1]
  exact x a o e1 (R.ndm ha)
theorem ER.extM (R : ER E M0 A H σ ρ) (x : Ext (Dm E) H H') : Ext (Own M0 A) H H' := x.mono R.dm
end

/-! ### how firmly an expression's value stands -/
inductive Lv where
  | full | sh | rd
def RepL (E : Ev) (M0 : Addr → Prop) (A : Nat → Option Addr) (H : Hp) : Lv → V → D → Prop
  | .full, v, d => Rep E (Own M0 A) H v d
  | .rd, v, d => Rep E M0 H v d
  | .sh, v, d => Rep E (Own M0 A) H v d ∨ (∃ i a vs ds, A i = some a ∧ v = .ref a ∧ d = .lst ds ∧ H a = some (.lst vs) ∧ RepA E (Own M0 A) H vs ds)
      ∨ ∃ i a t ds, A i = some a ∧ v = .ref a ∧ d = .dic t ds ∧ DicAt E (Own M0 A) H a t ds
theorem RepL.of {E : Ev} {M0 : Addr → Prop} {A : Nat → Option Addr} {H : Hp} {v : V} {d : D} (h : Rep E (Own M0 A) H v d) : ∀ {lv : Lv}, RepL E M0 A H lv v d
  | .full => h
  | .rd => h.mono fun _ z => .inl z
  | .sh => .inl h
theorem RepL.ext {E : Ev} {M0 : Addr → Prop} {A : Nat → Option Addr} {H H' : Hp} {σ : L2.St} {ρ : PEnv} (R : ER E M0 A H σ ρ) (x : Ext (Dm E) H H') :
    ∀ {lv : Lv} {v : V} {d : D}, RepL E M0 A H lv v d → RepL E M0 A H' lv v d
  | .full, _, _, h => Rep.ext (R.extM x) R.mok h
  | .rd, _, _, h => Rep.ext (x.mono fun a z => by
      rcases z with ⟨o, rfl | rfl⟩
      · exact R.mp o
      · exact R.mq o) (fun b m => R.mok b (.inl m)) h
  | .sh, _, _, h => by
    rcases h with h | ⟨i, a, vs, ds, h1, h2, h3, h4, h5⟩ | ⟨i, a, t, ds, h1, h2, h3, h4⟩
    · exact .inl (Rep.ext (R.extM x) R.mok h)
    · exact .inr (.inl ⟨i, a, vs, ds, h1, h2, h3, x _ _ h4 (R.ndm h1), RepA.ext (R.extM x) R.mok h5⟩)
    · refine .inr (.inr ⟨i, a, t, ds, h1, h2, h3, ?_⟩)
      obtain ⟨o, eo, _⟩ := R.mok a (.inr ⟨i, h1⟩)
      exact h4.ext (R.extM x) R.mok ((x _ _ eo (R.ndm h1)).trans eo.symm)

/-! ### what is wanted behind a piece of a program -/
/-- an exception of our own: its arguments stand in its dict -/
def XAt (E : Ev) (H : Hp) (c : Str) (as : List D) (dct : Option Addr) : Prop := True
def Fin (E : Ev) (W : XK) {α : Type} (H : Hp) (r : Out α) (Q : α → Dl → Hp → Prop) : Prop :=
  match r with
  | .ok a s' => ∀ H', Ext (Dm E) H H' → DealAt E H' s' → Q a s' H'
  | .exc c as s' => ∀ H' dct, Ext (Dm E) H H' → DealAt E H' s' → XAt E H' c as dct → W (.ref (E.C c)) dct H'
  | .bad => False
theorem Fin.pure {E : Ev} {W : XK} {α : Type} {H : Hp} {a : α} {s : Dl} {Q : α → Dl → Hp → Prop} (h : Fin E W H ((Pure.pure a : M α) s) Q) : ∀ H', Ext (Dm E) H H' → DealAt E H' s → Q a s H' := h
theorem Fin.bind {E : Ev} {W : XK} {α β : Type} {H : Hp} {m : M α} {f : α → M β} {s : Dl} {Q : β → Dl → Hp → Prop} (h : Fin E W H ((m >>= f) s) Q) : Fin E W H (m s) fun a s' H' => Fin E W H' (f a s') Q := by
  rw [bind_run] at h
  cases e : m s with
  | ok a s' =>
    rw [e] at h
    intro H1 x1 d1
    have h : Fin E W H (f a s') Q := h
    show Fin E W H1 (f a s') Q
    cases e2 : f a s' with
    | ok b s2 =>
      rw [e2] at h
      exact fun H2 x2 d2 => h H2 (x1.trans x2) d2
    | exc c l s2 =>
      rw [e2] at h
      exact fun H2 dct x2 d2 => h H2 dct (x1.trans x2) d2
    | bad =>
      rw [e2] at h
      exact h
  | exc c l s' =>
    rw [e] at h
    exact h
  | bad =>
    rw [e] at h
    exact h
theorem Fin.mono {E : Ev} {W : XK} {α : Type} {H : Hp} {r : Out α} {Q Q' : α → Dl → Hp → Prop} (h : Fin E W H r Q) (k : ∀ a s' H', r = .ok a s' → Ext (Dm E) H H' → DealAt E H' s' → Q a s' H' → Q' a s' H') : Fin E W H r Q' := by
  cases r with
  | ok a s' => exact fun H' x d => k a s' H' rfl x d (h H' x d)
  | exc c l s' => exact h
  | bad => exact h

/-! ### the judgements -/
structure Ctx (X : Cx) (E : Ev) (W : XK) (k : Nat) : Prop where
  K : E.K = X.K
  rm : Room k X.A
  nd : X.N.Nodup
  calm : X.calm = true
  ps : Passes (L2.CX X.prog X.w) X W
  gd : X.A.guards = some []

/-- an expression -/
def CE (X : Cx) (E : Ev) (W : XK) (lv : Lv) (e : Expr) (m : PEnv → M D) : Prop :=
  ∃ t : TE, PE X e t ∧ ∀ (σ : L2.St) (H : Hp) (ρ : PEnv) (s : Dl) (M0 : Addr → Prop) (A : Nat → Option Addr) (Q : VK), ER E M0 A H σ ρ → DealAt E H s →
    Fin E W H (m ρ s) (fun d _ H' => ∀ v, RepL E M0 A H' lv v d → Q v H') → t σ H Q
/-- an expression whose value is a list just made -/
def CF (X : Cx) (E : Ev) (W : XK) (e : Expr) (m : PEnv → M (List D)) : Prop :=
  ∃ t : TE, PE X e t ∧ ∀ (σ : L2.St) (H : Hp) (ρ : PEnv) (s : Dl) (M0 : Addr → Prop) (A : Nat → Option Addr) (Q : VK), ER E M0 A H σ ρ → DealAt E H s →
    Fin E W H (m ρ s) (fun d _ H' => ∀ a vs, H a = none → H' a = some (.lst vs) → RepA E (fun b => Own M0 A b ∨ b = a) H' vs d → Q (.ref a) H') → t σ H Q
/-- an expression whose value is a dict just made -/
def CD (X : Cx) (E : Ev) (W : XK) (e : Expr) (tt : Bool) (m : PEnv → M (List (D × D))) : Prop :=
  ∃ t : TE, PE X e t ∧ ∀ (σ : L2.St) (H : Hp) (ρ : PEnv) (s : Dl) (M0 : Addr → Prop) (A : Nat → Option Addr) (Q : VK), ER E M0 A H σ ρ → DealAt E H s →
    Fin E W H (m ρ s) (fun d _ H' => ∀ a, H a = none → DicAt E (fun b => Own M0 A b ∨ b = a) H' a tt d → Q (.ref a) H') → t σ H Q
/-- arguments -/
def CA (X : Cx) (E : Ev) (W : XK) (lv : Lv) (es : List Expr) (m : PEnv → M (List D)) : Prop :=
  ∃ t : TA, PA X es t ∧ ∀ (σ : L2.St) (H : Hp) (ρ : PEnv) (s : Dl) (M0 : Addr → Prop) (A : Nat → Option Addr) (Q : List V → Hp → Prop), ER E M0 A H σ ρ → DealAt E H s →
    Fin E W H (m ρ s) (fun ds _ H' => ∀ vs, Paired (RepL E M0 A H' lv) vs ds → Q vs H') → t σ H Q
/-- a test -/
def CT (X : Cx) (E : Ev) (W : XK) (e : Expr) (m : PEnv → M Bool) : Prop :=
  ∃ t : TT, PT X e t ∧ ∀ (σ : L2.St) (H : Hp) (ρ : PEnv) (s : Dl) (M0 : Addr → Prop) (A : Nat → Option Addr) (Q : Bool → Hp → Prop), ER E M0 A H σ ρ → DealAt E H s →
    Fin E W H (m ρ s) (fun b _ H' => Q b H') → t σ H Q
/-- and, or .. -/
def CW (X : Cx) (E : Ev) (W : XK) (e : Expr) (m : PEnv → M Bool) : Prop :=
  ∃ t : TT, PW X e t ∧ ∀ (σ : L2.St) (H : Hp) (ρ : PEnv) (s : Dl) (M0 : Addr → Prop) (A : Nat → Option Addr) (Q : Bool → Hp → Prop), ER E M0 A H σ ρ → DealAt E H s →
    Fin E W H (m ρ s) (fun b _ H' => Q b H') → t σ H Q
end PL
end
section
set_option Elab.async false
set_option linter.all false
set_option maxRecDepth 100000
/-! PL2: expressions. -/
namespace PL
open PySem PySem.Spec L2

/-! ### data of the model's own -/
mutual
def toPy : D → Option PyData
  | .non => some .none
  | .bl b => some (.bool b)
  | .int i => some (.int i)
  | .str x => some (.str x)
  | .tup _ l => (toPyA l).map .tuple
  | .lst l => (toPyA l).map .list
  | .dic _ _ => none
  | .ins _ _ => none
  | .deal => none
  | .dealL => none
  | .scr _ => none
def toPyA : List D → Option (List PyData)
  | [] => some []
  | d :: l => (toPy d).bind fun p => (toPyA l).map fun r => p :: r
end
section
variable {E : Ev} {Mv : Addr → Prop} {H : Hp}
mutual
theorem Rep.dp : ∀ {v : V} {d : D} {p : PyData}, Rep E Mv H v d → toPy d = some p → Dp E.K H v p
  | _, _, _, .non, e => by simp only [toPy, Option.some.injEq] at e; subst e; exact .non
  | _, _, _, .bl b, e => by simp only [toPy, Option.some.injEq] at e; subst e; exact .bl b
  | _, _, _, .int b, e => by simp only [toPy, Option.some.injEq] at e; subst e; exact .int b
  | _, _, _, .str b, e => by simp only [toPy, Option.some.injEq] at e; subst e; exact .str b
  | _, _, _, .tup h r, e => by
    rw [toPy, Option.map_eq_some_iff] at e
    obtain ⟨l, e, rfl⟩ := e
    exact .tup (.inl (.inl h)) (RepA.dp r e)
  | _, _, _, .tupK h r, e => by
    rw [toPy, Option.map_eq_some_iff] at e
    obtain ⟨l, e, rfl⟩ := e
    exact .tup h.sq (RepA.dp r e)
  | _, _, _, .lst h n r, e => by
    rw [toPy, Option.map_eq_some_iff] at e
    obtain ⟨l, e, rfl⟩ := e
    exact .lst (SqL.of h) (RepA.dp r e)
  | _, _, _, .dk _ _ _ _, e => by simp only [toPy] at e; cases e
  | _, _, _, .dt _ _ _ _, e => by simp only [toPy] at e; cases e
  | _, _, _, .ins _ _ _ _, e => by simp only [toPy] at e; cases e
  | _, _, _, .deal _, e => by simp only [toPy] at e; cases e
  | _, _, _, .dealL _, e => by simp only [toPy] at e; cases e
  | _, _, _, .scr _, e => by simp only [toPy] at e; cases e
theorem RepA.dp : ∀ {vs : List V} {ds : List D} {ps : List PyData}, RepA E Mv H vs ds → toPyA ds = some ps → DpAll E.K H vs ps
  | _, _, _, .nil, e => by simp only [toPyA, Option.some.injEq] at e; subst e; exact .nil
  | _, _, _, .cons r t, e => by
    rw [toPyA, Option.bind_eq_some_iff] at e
    obtain ⟨p, e1, e⟩ := e
    rw [Option.map_eq_some_iff] at e
    obtain ⟨q, e2, rfl⟩ := e
    exact .cons (Rep.dp r e1) (RepA.dp t e2)
end
end
section
variable {E : Ev} {M0 : Addr → Prop} {A : Nat → Option Addr} {H : Hp} {lv : Lv} {x : V}
theorem RepL.dp {d : D} {p : PyData} (h : RepL E M0 A H lv x d) (e : toPy d = some p) : Dp E.K H x p := by
  cases lv with
  | full => exact Rep.dp h e
  | rd => exact Rep.dp h e
  | sh =>
    rcases h with h | ⟨i, a, vs, ds, h1, rfl, rfl, h4, h5⟩ | ⟨i, a, t, ds, h1, rfl, rfl, h4⟩
    · exact Rep.dp h e
    · rw [toPy, Option.map_eq_some_iff] at e
      obtain ⟨l, e, rfl⟩ := e
      exact .lst (SqL.of h4) (h5.dp e)
    · simp only [toPy] at e; cases e
theorem RepL.int {i : Int} (h : RepL E M0 A H lv x (.int i)) : x = .int i := by
  cases lv with
  | full => have h : Rep E _ H x (.int i) := h; cases h; rfl
  | rd => have h : Rep E _ H x (.int i) := h; cases h; rfl
  | sh =>
    rcases h with h | ⟨_, _, _, _, _, _, h, _⟩ | ⟨_, _, _, _, _, _, h, _⟩
    · cases h; rfl
    · cases h
    · cases h
theorem RepL.str {i : Str} (h : RepL E M0 A H lv x (.str i)) : x = .str i := by
  cases lv with
  | full => have h : Rep E _ H x (.str i) := h; cases h; rfl
  | rd => have h : Rep E _ H x (.str i) := h; cases h; rfl
  | sh =>
    rcases h with h | ⟨_, _, _, _, _, _, h, _⟩ | ⟨_, _, _, _, _, _, h, _⟩
    · cases h; rfl
    · cases h
    · cases h
theorem RepL.bl {i : Bool} (h : RepL E M0 A H lv x (.bl i)) : x = .bl i := by
  cases lv with
  | full => have h : Rep E _ H x (.bl i) := h; cases h; rfl
  | rd => have h : Rep E _ H x (.bl i) := h; cases h; rfl
  | sh =>
    rcases h with h | ⟨_, _, _, _, _, _, h, _⟩ | ⟨_, _, _, _, _, _, h, _⟩
    · cases h; rfl
    · cases h
    · cases h
theorem RepL.non (h : RepL E M0 A H lv x .non) : x = .non := by
  cases lv with
  | full => have h : Rep E _ H x .non := h; cases h; rfl
  | rd => have h : Rep E _ H x .non := h; cases h; rfl
  | sh =>
    rcases h with h | ⟨_, _, _, _, _, _, h, _⟩ | ⟨_, _, _, _, _, _, h, _⟩
    · cases h; rfl
    · cases h
    · cases h
theorem sh_tup {k : Bool} {l : List D} (h : RepL E M0 A H .sh x (.tup k l)) : ∃ a vs, x = .ref a ∧ SqT E.K H a vs ∧ RepA E (Own M0 A) H vs l := by
  rcases h with h | ⟨_, _, _, _, _, _, h, _⟩ | ⟨_, _, _, _, _, _, h, _⟩
  · cases h with
    | tup h r => exact ⟨_, _, rfl, .inl (.inl h), r⟩
    | tupK h r => exact ⟨_, _, rfl, h.sq, r⟩
  · cases h
  · cases h
theorem sh_tupR {k : Bool} {l : List D} (h : RepL E M0 A H .sh x (.tup k l)) : Rep E (Own M0 A) H x (.tup k l) := by
  rcases h with h | ⟨_, _, _, _, _, _, h, _⟩ | ⟨_, _, _, _, _, _, h, _⟩
  · exact h
  · cases h
  · cases h
theorem sh_lst {l : List D} (h : RepL E M0 A H .sh x (.lst l)) : ∃ a vs, x = .ref a ∧ H a = some (.lst vs) ∧ RepA E (Own M0 A) H vs l := by
  rcases h with h | ⟨i, a, vs, ds, _, e, h, h1, h2⟩ | ⟨_, _, _, _, _, _, h, _⟩
  · cases h with
    | lst h n r => exact ⟨_, _, rfl, h, r⟩
  · cases h
    exact ⟨a, vs, e, h1, h2⟩
  · cases h
theorem sh_dic {t : Bool} {l : List (D × D)} (h : RepL E M0 A H .sh x (.dic t l)) : ∃ a, x = .ref a ∧ DicAt E (Own M0 A) H a t l := by
  rcases h with h | ⟨_, _, _, _, _, _, h, _⟩ | ⟨i, a, t, ds, _, e, h, h1⟩
  · cases h with
    | dk h n e r => exact ⟨_, rfl, .k h e r⟩
    | dt h n e r => exact ⟨_, rfl, .t h e r⟩
  · cases h
  · cases h
    exact ⟨a, e, h1⟩
end

/-! ### an outcome that is plain -/
theorem Fin.ok {E : Ev} {W : XK} {α : Type} {H : Hp} {a : α} {s : Dl} {Q : α → Dl → Hp → Prop} (dl : DealAt E H s) (h : Fin E W H ((Pure.pure a : M α) s) Q) : Q a s H := h H Ext.refl dl
theorem Fin.okAt {E : Ev} {W : XK} {α : Type} {H H' : Hp} {a : α} {s : Dl} {Q : α → Dl → Hp → Prop} (h : Fin E W H ((Pure.pure a : M α) s) Q) (x : Ext (Dm E) H H') (dl : DealAt E H' s) : Q a s H' := h H' x dl
def lift {α : Type} (o : Option α) : M α := match o with
  | some a => pure a
  | none => fail
@[simp] theorem lift_some {α : Type} (a : α) : lift (some a) = pure a := id rfl
@[simp] theorem lift_none {α : Type} : lift (none : Option α) = fail := id rfl
theorem Fin.lift {E : Ev} {W : XK} {α : Type} {H : Hp} {o : Option α} {s : Dl} {Q : α → Dl → Hp → Prop} (h : Fin E W H (PL.lift o s) Q) : ∃ a, o = some a ∧ ∀ H', Ext (Dm E) H H' → DealAt E H' s → Q a s H' := by
  cases o with
  | none => exact h.elim
  | some a => exact ⟨a, rfl, h⟩
theorem Fin.liftB {E : Ev} {W : XK} {α β : Type} {H : Hp} {o : Option α} {f : α → M β} {s : Dl} {Q : β → Dl → Hp → Prop} (h : Fin E W H ((PL.lift o >>= f) s) Q) : ∃ a, o = some a ∧ Fin E W H (f a s) Q := by
  cases o with
  | none => exact h.elim
  | some a => exact ⟨a, rfl, h⟩
theorem DealAt.laid {E : Ev} {H : Hp} {s : Dl} (d : DealAt E H s) {p : Addr} {o : HO} (hp : H p = none) : DealAt E (upd H p o) s :=
  ⟨fun o => by rw [upd_ne (ne_of_none (d.p o) hp)]; exact d.p o, fun o => by rw [upd_ne (ne_of_none (d.q o) hp)]; exact d.q o⟩
theorem MOk.laid {Mv : Addr → Prop} {H : Hp} (k : MOk Mv H) {p : Addr} {o : HO} (hp : H p = none) : MOk Mv (upd H p o) := fun b m => by
  obtain ⟨u, e, w⟩ := k b m
  exact ⟨u, by rw [upd_ne (ne_of_none e hp)]; exact e, w⟩
theorem mokF {H : Hp} : MOk (fun _ => False) H := fun _ z => z.elim
theorem RepA.laidA {E : Ev} {Mv : Addr → Prop} {H : Hp} {vs : List V} {ds : List D} (h : RepA E Mv H vs ds) {p : Addr} {o : HO} (hp : H p = none) : RepA E Mv (upd H p o) vs ds := h.extS (Ext.laid hp) mokF fun _ z => z.elim
/-- .. which then stands apart from the new one -/
theorem RepA.laidN {E : Ev} {Mv : Addr → Prop} {H : Hp} {vs : List V} {ds : List D} (h : RepA E Mv H vs ds) {p : Addr} {o : HO} (hp : H p = none) : RepA E (fun b => Mv b ∨ b = p) (upd H p o) vs ds :=
  (h.fresh.mono (Mw := fun b => Mv b ∨ b = p) fun a z => z.imp id fun e => by rw [e]; exact hp).laidA hp
theorem was_free {E : Ev} {H H1 : Hp} {s : Dl} (x : Ext (Dm E) H H1) (d : DealAt E H1 s) {q : Addr} (hq : H1 q = none) : H q = none := by
  cases e : H q with
  | none => rfl
  | some o =>
    by_cases hd : Dm E q
    · rcases hd with ⟨o, rfl | rfl⟩
      · rw [d.p o] at hq; cases hq
      · rw [d.q o] at hq; cases hq
    · rw [x q o e hd] at hq; cases hq
theorem RepA.laid {E : Ev} {Mv : Addr → Prop} {H : Hp} {vs : List V} {ds : List D} (h : RepA E Mv H vs ds) (k : MOk Mv H) {p : Addr} {o : HO} (hp : H p = none) : RepA E Mv (upd H p o) vs ds := h.ext (Ext.laid hp) k
theorem Rep.laid {E : Ev} {Mv : Addr → Prop} {H : Hp} {v : V} {d : D} (h : Rep E Mv H v d) (k : MOk Mv H) {p : Addr} {o : HO} (hp : H p = none) : Rep E Mv (upd H p o) v d := h.ext (Ext.laid hp) k
/-- a new tuple -/
theorem RepA.ne {E : Ev} {Mv : Addr → Prop} {H : Hp} {vs : List V} {ds : List D} (h : RepA E Mv H vs ds) (n : vs ≠ []) : ds ≠ [] := fun z => n (by subst z; cases h; rfl)
theorem new_tup {E : Ev} {Mv : Addr → Prop} {H : Hp} {vs : List V} {ds : List D} (h : RepA E Mv H vs ds) (k : MOk Mv H) {p : Addr} (hp : H p = none) : Rep E Mv (upd H p (.tup vs)) (.ref p) (.tup false ds) :=
  .tup upd_same (h.laid k hp)
theorem not_own {Mv : Addr → Prop} {H : Hp} (k : MOk Mv H) {p : Addr} (hp : H p = none) : ¬ Mv p := fun z => k.tr z hp
/-- a new list -/
theorem new_lst {E : Ev} {Mv : Addr → Prop} {H : Hp} {vs : List V} {ds : List D} (h : RepA E Mv H vs ds) (k : MOk Mv H) {p : Addr} (hp : H p = none) : Rep E Mv (upd H p (.lst vs)) (.ref p) (.lst ds) :=
  .lst upd_same (not_own k hp) (h.laid k hp)

section
variable {X : Cx} {E : Ev} {W : XK} {lv lw : Lv} {k : Nat}

/-! ### names, constants -/
def getI (i : Nat) (ρ : PEnv) : M D := match ρ[i]? with
  | some (.im d) => pure d
  | _ => fail
def getS (i : Nat) (ρ : PEnv) : M D := match ρ[i]? with
  | some (.im d) => pure d
  | some (.mu l) => pure (.lst l)
  | some (.md t l) => pure (.dic t l)
  | _ => fail
theorem c_im (i : Nat) {x : Str} {pos : Pos} (hN : X.N[i]? = some x := by rfl) (hv : Vis X.env.scope x := by first | exact Or.inl rfl | exact Or.inr (Or.inl rfl) | exact Or.inr (Or.inr rfl)) (hd : (x == ("__debug__" : Str)) = false := by decide)
    (hcd : (x == ("__classdict__" : Str)) = false := by decide) : CE X E W lv (.Name x pos) (getI i) := by
  refine ⟨_, pe_var hN hv hd hcd, fun σ H ρ s M0 A Q R dl h => ?_⟩
  unfold getI at h
  cases e : ρ[i]? with
  | none => rw [e] at h; exact h.elim
  | some y =>
    rw [e] at h
    cases y with
    | im d =>
      obtain ⟨_, v, e1, r⟩ := R.at_ i _ e
      exact ⟨v, e1, h.ok dl v (RepL.of r)⟩
    | un => exact h.elim
    | mu l => exact h.elim
    | md t l => exact h.elim
theorem c_sh (i : Nat) {x : Str} {pos : Pos} (hN : X.N[i]? = some x := by rfl) (hv : Vis X.env.scope x := by first | exact Or.inl rfl | exact Or.inr (Or.inl rfl) | exact Or.inr (Or.inr rfl)) (hd : (x == ("__debug__" : Str)) = false := by decide)
    (hcd : (x == ("__classdict__" : Str)) = false := by decide) : CE X E W .sh (.Name x pos) (getS i) := by
  refine ⟨_, pe_var hN hv hd hcd, fun σ H ρ s M0 A Q R dl h => ?_⟩
  unfold getS at h
  cases e : ρ[i]? with
  | none => rw [e] at h; exact h.elim
  | some y =>
    rw [e] at h
    cases y with
    | im d =>
      obtain ⟨_, v, e1, r⟩ := R.at_ i _ e
      exact ⟨v, e1, h.ok dl v (.inl r)⟩
    | un => exact h.elim
    | mu l =>
      obtain ⟨a, vs, h1, h2, h3, h4⟩ := R.at_ i _ e
      exact ⟨.ref a, h2, h.ok dl _ (.inr (.inl ⟨i, a, vs, l, h1, rfl, rfl, h3, h4⟩))⟩
    | md t l =>
      obtain ⟨a, h1, h2, h3⟩ := R.at_ i _ e
      exact ⟨.ref a, h2, h.ok dl _ (.inr (.inr ⟨i, a, t, l, h1, rfl, rfl, h3⟩))⟩
theorem c_rd (i : Nat) {x : Str} {pos : Pos} (hN : X.N[i]? = some x := by rfl) (hv : Vis X.env.scope x := by first | exact Or.inl rfl | exact Or.inr (Or.inl rfl) | exact Or.inr (Or.inr rfl)) (hd : (x == ("__debug__" : Str)) = false := by decide)
    (hcd : (x == ("__classdict__" : Str)) = false := by decide) : CE X E W .rd (.Name x pos) (getS i) := by
  refine ⟨_, pe_var hN hv hd hcd, fun σ H ρ s M0 A Q R dl h => ?_⟩
  unfold getS at h
  have sub : ∀ a, M0 a → Own M0 A a := fun a z => .inl z
  cases e : ρ[i]? with
  | none => rw [e] at h; exact h.elim
  | some y =>
    rw [e] at h
    cases y with
    | im d =>
      obtain ⟨_, v, e1, r⟩ := R.at_ i _ e
      exact ⟨v, e1, h.ok dl v (r.mono sub)⟩
    | un => exact h.elim
    | mu l =>
      obtain ⟨a, vs, h1, h2, h3, h4⟩ := R.at_ i _ e
      exact ⟨.ref a, h2, h.ok dl _ (.lst h3 (R.own i a h1) (h4.mono sub))⟩
    | md t l =>
      obtain ⟨a, h1, h2, h3⟩ := R.at_ i _ e
      refine ⟨.ref a, h2, h.ok dl _ ?_⟩
      cases h3 with
      | k e1 e2 r => exact .dk e1 (R.own i a h1) e2 (r.mono sub)
      | t e1 e2 r => exact .dt e1 (R.own i a h1) e2 (r.mono sub)
theorem c_int {i : Int} {j : Nat} {pos : Pos} : CE X E W lv (.Constant (.int i) j pos) (fun _ => pure (.int i)) :=
  ⟨_, pe_int, fun _ _ _ _ _ _ _ _ dl h => h.ok dl _ (RepL.of (.int i))⟩
theorem c_bl {b : Bool} {j : Nat} {pos : Pos} : CE X E W lv (.Constant (.bool b) j pos) (fun _ => pure (.bl b)) :=
  ⟨_, pe_bl, fun _ _ _ _ _ _ _ _ dl h => h.ok dl _ (RepL.of (.bl b))⟩
theorem c_non {j : Nat} {pos : Pos} : CE X E W lv (.Constant .none j pos) (fun _ => pure .non) :=
  ⟨_, pe_non, fun _ _ _ _ _ _ _ _ dl h => h.ok dl _ (RepL.of .non)⟩
theorem c_str {x : Str} {j : Nat} {pos : Pos} : CE X E W lv (.Constant (.str x) j pos) (fun _ => pure (.str x)) :=
  ⟨_, pe_str, fun _ _ _ _ _ _ _ _ dl h => h.ok dl _ (RepL.of (.str x))⟩
/-- a constant of the module -/
theorem c_glob {x : Str} {v : V} {u : Value} {d : D} {pos : Pos} (hm : X.mg x = some u) (r : RelV v u) (rep : ∀ Mv H, Rep E Mv H v d) (hg : Gl X x := by rfl) (hd : (x == ("__debug__" : Str)) = false := by decide) : CE X E W lv (.Name x pos) (fun _ => pure d) :=
  ⟨_, pe_glob hg hm r hd, fun _ _ _ _ _ _ _ _ dl h => h.ok dl _ (RepL.of (rep _ _))⟩
/-- any level from the firm one -/
theorem CE.any {e : Expr} {m : PEnv → M D} (h : CE X E W .full e m) : CE X E W lv e m := by
  obtain ⟨t, p, k⟩ := h
  exact ⟨t, p, fun σ H ρ s M0 A Q R dl f => k σ H ρ s M0 A Q R dl (f.mono fun a s' H' _ _ _ q v r => q v (RepL.of r))⟩

/-! ### arguments, displays -/
theorem a_nil : CA X E W lv [] (fun _ => pure []) :=
  ⟨_, pa_nil, fun σ H ρ s M0 A Q R dl h => h.ok dl [] .nil⟩
theorem a_cons {e : Expr} {es : List Expr} {m : PEnv → M D} {n : PEnv → M (List D)} (h1 : CE X E W lv e m) (h2 : CA X E W lv es n) (hs : starEach (e :: es) X.env = (false, eval e X.env) :: starEach es X.env := by rfl) :
    CA X E W lv (e :: es) (fun ρ => m ρ >>= fun d => n ρ >>= fun l => pure (d :: l)) := by
  obtain ⟨t, p, k⟩ := h1
  obtain ⟨u, p2, k2⟩ := h2
  refine ⟨_, pa_cons p p2 hs, fun σ H ρ s M0 A Q R dl h => ?_⟩
  refine k σ H ρ s M0 A _ R dl (h.bind.mono fun d s1 H1 _ x1 d1 h v r => ?_)
  have R1 := R.ext x1 d1
  refine k2 σ H1 ρ s1 M0 A _ R1 d1 (h.bind.mono fun l s2 H2 _ x2 d2 h vs rs => ?_)
  exact h.ok d2 (v :: vs) (.cons (r.ext R1 x2) rs)
theorem pairedA {E : Ev} {M0 : Addr → Prop} {A : Nat → Option Addr} {H : Hp} : ∀ {vs : List V} {ds : List D}, Paired (RepL E M0 A H .full) vs ds → RepA E (Own M0 A) H vs ds
  | _, _, .nil => .nil
  | _, _, .cons r t => .cons r (pairedA t)
theorem pairedR {E : Ev} {M0 : Addr → Prop} {A : Nat → Option Addr} {H : Hp} : ∀ {vs : List V} {ds : List D}, Paired (RepL E M0 A H .rd) vs ds → RepA E M0 H vs ds
  | _, _, .nil => .nil
  | _, _, .cons r t => .cons r (pairedR t)
def mkTup (l : List D) : M D := if l.length ≤ sizeLine then pure (.tup false l) else fail
def mkLst (l : List D) : M (List D) := if l.length ≤ sizeLine then pure l else fail
/-- a tuple -/
theorem c_tup {es : List Expr} {j : Nat} {pos : Pos} {m : PEnv → M (List D)} (h : CA X E W .full es m) : CE X E W lv (.Tuple es j pos) (fun ρ => m ρ >>= mkTup) := by
  refine CE.any ?_
  obtain ⟨t, p, k⟩ := h
  refine ⟨_, pe_tup p, fun σ H ρ s M0 A Q R dl h => ?_⟩
  refine k σ H ρ s M0 A _ R dl (h.bind.mono fun l s1 H1 _ x1 d1 h vs rs => ?_)
  have R1 := R.ext x1 d1
  have ra := pairedA rs
  unfold mkTup at h
  by_cases hl : l.length ≤ sizeLine
  · rw [if_pos hl] at h
    refine ⟨by rw [ra.length]; exact hl, fun q hq => ?_⟩
    exact h.okAt (Ext.laid hq) (d1.laid hq) _ (new_tup ra R1.mok hq)
  · rw [if_neg hl] at h
    exact h.elim
theorem c_tupR {es : List Expr} {j : Nat} {pos : Pos} {m : PEnv → M (List D)} (h : CA X E W .rd es m) : CE X E W .rd (.Tuple es j pos) (fun ρ => m ρ >>= mkTup) := by
  obtain ⟨t, p, k⟩ := h
  refine ⟨_, pe_tup p, fun σ H ρ s M0 A Q R dl h => ?_⟩
  refine k σ H ρ s M0 A _ R dl (h.bind.mono fun l s1 H1 _ x1 d1 h vs rs => ?_)
  have R1 := R.ext x1 d1
  have ra := pairedR rs
  unfold mkTup at h
  by_cases hl : l.length ≤ sizeLine
  · rw [if_pos hl] at h
    refine ⟨by rw [ra.length]; exact hl, fun q hq => ?_⟩
    exact h.okAt (Ext.laid hq) (d1.laid hq) _ (new_tup ra (fun b z => R1.mok b (.inl z)) hq)
  · rw [if_neg hl] at h
    exact h.elim
/-- a list -/
theorem f_lst {es : List Expr} {pos : Pos} {m : PEnv → M (List D)} (h : CA X E W .full es m) : CF X E W (.List es pos) (fun ρ => m ρ >>= mkLst) := by
  obtain ⟨t, p, k⟩ := h
  refine ⟨_, pe_lst p, fun σ H ρ s M0 A Q R dl h => ?_⟩
  refine k σ H ρ s M0 A _ R dl (h.bind.mono fun l s1 H1 _ x1 d1 h vs rs => ?_)
  have R1 := R.ext x1 d1
  have ra := pairedA rs
  unfold mkLst at h
  by_cases hl : l.length ≤ sizeLine
  · rw [if_pos hl] at h
    refine ⟨by rw [ra.length]; exact hl, fun q hq => ?_⟩
    exact h.okAt (Ext.laid hq) (d1.laid hq) q vs (was_free x1 d1 hq) upd_same (ra.laidN hq)
  · rw [if_neg hl] at h
    exact h.elim
theorem CF.ce {e : Expr} {m : PEnv → M (List D)} (h : CF X E W e m) : CE X E W lv e (fun ρ => m ρ >>= fun l => pure (.lst l)) := by
  refine CE.any ?_
  obtain ⟨t, p, k⟩ := h
  refine ⟨t, p, fun σ H ρ s M0 A Q R dl h => ?_⟩
  refine k σ H ρ s M0 A _ R dl (h.bind.mono fun l s1 H1 _ x1 d1 h a vs e0 e1 r => ?_)
  have R1 := R.ext x1 d1
  exact h.ok d1 _ (.lst e1 (not_own R.mok e0) (r.mono fun _ z => .inl z))

/-! ### operators -/
def OpD (E : Ev) (W : XK) (r : R2) (f : D → D → M D) : Prop := ∀ (σ : L2.St) (H : Hp) (ρ : PEnv) (s : Dl) (M0 : Addr → Prop) (A : Nat → Option Addr) (Q : VK) (x y : V) (a b : D), ER E M0 A H σ ρ → DealAt E H s → RepL E M0 A H .sh x a → RepL E M0 A H .sh y b →
  Fin E W H (f a b s) (fun d _ H' => ∀ v, Rep E (Own M0 A) H' v d → Q v H') → r x y H Q
theorem OpD.or {r r' : R2} {f g : D → D → M D} (h : OpD E W r f) (h' : OpD E W r' g) : OpD E W (fun x y H Q => r x y H Q ∨ r' x y H Q) (fun a b => fun s => match f a b s with | .bad => g a b s | o => o) := by
  intro σ H ρ s M0 A Q x y a b R dl ra rb q
  cases e : f a b s with
  | bad =>
    simp only [e] at q
    exact .inr (h' σ H ρ s M0 A Q x y a b R dl ra rb q)
  | ok d s' =>
    simp only [e] at q
    exact .inl (h σ H ρ s M0 A Q x y a b R dl ra rb (by rw [e]; exact q))
  | exc c l s' =>
    simp only [e] at q
    exact .inl (h σ H ρ s M0 A Q x y a b R dl ra rb (by rw [e]; exact q))
variable {e1 e2 : Expr} {m1 m2 : PEnv → M D} {pos : Pos}
theorem bin_go {r : R2} {f : D → D → M D} {ta tb : TE} (hf : OpD E W r f)
    (k1 : ∀ (σ : L2.St) (H : Hp) (ρ : PEnv) (s : Dl) (M0 : Addr → Prop) (A : Nat → Option Addr) (Q : VK), ER E M0 A H σ ρ → DealAt E H s → Fin E W H (m1 ρ s) (fun d _ H' => ∀ v, RepL E M0 A H' .sh v d → Q v H') → ta σ H Q)
    (k2 : ∀ (σ : L2.St) (H : Hp) (ρ : PEnv) (s : Dl) (M0 : Addr → Prop) (A : Nat → Option Addr) (Q : VK), ER E M0 A H σ ρ → DealAt E H s → Fin E W H (m2 ρ s) (fun d _ H' => ∀ v, RepL E M0 A H' .sh v d → Q v H') → tb σ H Q)
    {σ : L2.St} {H : Hp} {ρ : PEnv} {s : Dl} {M0 : Addr → Prop} {A : Nat → Option Addr} {Q : VK} (R : ER E M0 A H σ ρ) (dl : DealAt E H s)
    (h : Fin E W H ((m1 ρ >>= fun a => m2 ρ >>= fun b => f a b) s) (fun d _ H' => ∀ v, RepL E M0 A H' .full v d → Q v H')) : tOp r ta tb σ H Q := by
  refine k1 σ H ρ s M0 A _ R dl (h.bind.mono fun a s1 H1 _ x1 d1 h v1 r1 => ?_)
  have R1 := R.ext x1 d1
  refine k2 σ H1 ρ s1 M0 A _ R1 d1 (h.bind.mono fun b s2 H2 _ x2 d2 h v2 r2 => ?_)
  exact hf σ H2 ρ s2 M0 A Q v1 v2 a b (R1.ext x2 d2) d2 (r1.ext R1 x2) r2 h
theorem c_bin {op : Operator} {r : R2} {f : D → D → M D} (ho : OpR X (binaryOp op) r) (hf : OpD E W r f) (ha : CE X E W .sh e1 m1) (hb : CE X E W .sh e2 m2) : CE X E W lv (.BinOp e1 op e2 pos) (fun ρ => m1 ρ >>= fun a => m2 ρ >>= fun b => f a b) := by
  refine CE.any ?_
  obtain ⟨ta, pa, k1⟩ := ha
  obtain ⟨tb, pb, k2⟩ := hb
  exact ⟨_, pe_op ho pa pb, fun σ H ρ s M0 A Q R dl h => bin_go hf k1 k2 R dl h⟩
theorem c_cmp {op : CmpOp} {r : R2} {f : D → D → M D} (ho : OpR X (compareOp op) r) (hf : OpD E W r f) (ha : CE X E W .sh e1 m1) (hb : CE X E W .sh e2 m2) (hm : behindInMarks op e2 = false := by rfl) : CE X E W lv (.Compare e1 [op] [e2] pos) (fun ρ => m1 ρ >>= fun a => m2 ρ >>= fun b => f a b) := by
  refine CE.any ?_
  obtain ⟨ta, pa, k1⟩ := ha
  obtain ⟨tb, pb, k2⟩ := hb
  exact ⟨_, pe_cmpR ho pa pb hm, fun σ H ρ s M0 A Q R dl h => bin_go hf k1 k2 R dl h⟩
def asB : D → M Bool
  | .bl b => pure b
  | _ => fail
theorem t_cmp {op : CmpOp} {r : R2} {f : D → D → M D} (ho : OpR X (compareOp op) r) (hf : OpD E W r f) (ha : CE X E W .sh e1 m1) (hb : CE X E W .sh e2 m2) (hm : behindInMarks op e2 = false := by rfl) :
    CT X E W (.Compare e1 [op] [e2] pos) (fun ρ => (m1 ρ >>= fun a => m2 ρ >>= fun b => f a b) >>= asB) := by
  obtain ⟨ta, pa, k1⟩ := ha
  obtain ⟨tb, pb, k2⟩ := hb
  refine ⟨_, pt_cmpR ho pa pb hm, fun σ H ρ s M0 A Q R dl h => ?_⟩
  refine bin_go hf k1 k2 R dl (h.bind.mono fun d s1 H1 _ x1 d1 h v r => ?_)
  unfold asB at h
  cases d with
  | bl b =>
    obtain rfl := RepL.bl r
    exact ⟨b, rfl, h.ok d1⟩
  | _ => exact h.elim
/-- an expression that gives a bool, as a test -/
theorem t_val {e : Expr} {m : PEnv → M D} (h : CE X E W .sh e m) (he : ∀ whole, isTrue e X.env whole = (do let v ← whole; standAt e.pos; holding [v] (truthy v)) := by intro _; rfl) : CT X E W e (fun ρ => m ρ >>= asB) := by
  obtain ⟨t, p, k⟩ := h
  refine ⟨_, pt_val p he, fun σ H ρ s M0 A Q R dl h => ?_⟩
  refine k σ H ρ s M0 A _ R dl (h.bind.mono fun d s1 H1 _ x1 d1 h v r => ?_)
  unfold asB at h
  cases d with
  | bl b =>
    obtain rfl := RepL.bl r
    exact ⟨b, rfl, h.ok d1⟩
  | _ => exact h.elim

/-! ### not, and, or -/
variable {c1 c2 : PEnv → M Bool} {rest : List Expr}
theorem t_not (h : CT X E W e1 c1) : CT X E W (.UnaryOp .Not e1 pos) (fun ρ => c1 ρ >>= fun b => pure (!b)) := by
  obtain ⟨t, p, k⟩ := h
  refine ⟨_, pt_not p, fun σ H ρ s M0 A Q R dl h => ?_⟩
  exact k σ H ρ s M0 A _ R dl (h.bind.mono fun b s1 H1 _ x1 d1 h => h.ok d1)
theorem w_and1 (h : CT X E W e1 c1) : CW X E W (.BoolOp .And [e1] pos) c1 := by
  obtain ⟨t, p, k⟩ := h
  exact ⟨_, pw_and1 p, k⟩
theorem w_or1 (h : CT X E W e1 c1) : CW X E W (.BoolOp .Or [e1] pos) c1 := by
  obtain ⟨t, p, k⟩ := h
  exact ⟨_, pw_or1 p, k⟩
theorem w_and (h : CT X E W e1 c1) (h2 : CW X E W (.BoolOp .And (e2 :: rest) pos) c2) : CW X E W (.BoolOp .And (e1 :: e2 :: rest) pos) (fun ρ => c1 ρ >>= fun b => if b then c2 ρ else pure false) := by
  obtain ⟨t, p, k⟩ := h
  obtain ⟨t2, p2, k2⟩ := h2
  refine ⟨_, pw_and p p2, fun σ H ρ s M0 A Q R dl h => ?_⟩
  refine k σ H ρ s M0 A _ R dl (h.bind.mono fun b s1 H1 _ x1 d1 h => ?_)
  cases b with
  | true => exact k2 σ H1 ρ s1 M0 A _ (R.ext x1 d1) d1 h
  | false => exact Fin.ok d1 h
theorem w_or (h : CT X E W e1 c1) (h2 : CW X E W (.BoolOp .Or (e2 :: rest) pos) c2) : CW X E W (.BoolOp .Or (e1 :: e2 :: rest) pos) (fun ρ => c1 ρ >>= fun b => if b then pure true else c2 ρ) := by
  obtain ⟨t, p, k⟩ := h
  obtain ⟨t2, p2, k2⟩ := h2
  refine ⟨_, pw_or p p2, fun σ H ρ s M0 A Q R dl h => ?_⟩
  refine k σ H ρ s M0 A _ R dl (h.bind.mono fun b s1 H1 _ x1 d1 h => ?_)
  cases b with
  | true => exact Fin.ok d1 h
  | false => exact k2 σ H1 ρ s1 M0 A _ (R.ext x1 d1) d1 h
theorem CW.ct {e : Expr} (h : CW X E W e c1) : CT X E W e c1 := by
  obtain ⟨t, p, k⟩ := h
  exact ⟨t, p.pt, k⟩
/-- .. as values -/
theorem v_one {op : BoolOp} (h : CE X E W lv e1 m1) : CE X E W lv (.BoolOp op [e1] pos) m1 := by
  obtain ⟨t, p, k⟩ := h
  exact ⟨_, pe_one p, k⟩
theorem v_and (h : CE X E W .sh e1 m1) (h2 : CE X E W lv (.BoolOp .And (e2 :: rest) pos) m2) : CE X E W lv (.BoolOp .And (e1 :: e2 :: rest) pos) (fun ρ => (m1 ρ >>= asB) >>= fun b => if b then m2 ρ else pure (.bl false)) := by
  obtain ⟨t, p, k⟩ := h
  obtain ⟨t2, p2, k2⟩ := h2
  refine ⟨_, pe_and p p2, fun σ H ρ s M0 A Q R dl h => ?_⟩
  dsimp only at h
  rw [bind_assoc'] at h
  refine k σ H ρ s M0 A _ R dl (h.bind.mono fun d s1 H1 _ x1 d1 h v r => ?_)
  unfold asB at h
  cases d with
  | bl b =>
    obtain rfl := RepL.bl r
    refine ⟨b, rfl, ?_⟩
    cases b with
    | true => exact k2 σ H1 ρ s1 M0 A _ (R.ext x1 d1) d1 h
    | false => exact Fin.ok d1 h _ (RepL.of (.bl false))
  | _ => exact h.elim
theorem v_or (h : CE X E W .sh e1 m1) (h2 : CE X E W lv (.BoolOp .Or (e2 :: rest) pos) m2) : CE X E W lv (.BoolOp .Or (e1 :: e2 :: rest) pos) (fun ρ => (m1 ρ >>= asB) >>= fun b => if b then pure (.bl true) else m2 ρ) := by
  obtain ⟨t, p, k⟩ := h
  obtain ⟨t2, p2, k2⟩ := h2
  refine ⟨_, pe_or p p2, fun σ H ρ s M0 A Q R dl h => ?_⟩
  dsimp only at h
  rw [bind_assoc'] at h
  refine k σ H ρ s M0 A _ R dl (h.bind.mono fun d s1 H1 _ x1 d1 h v r => ?_)
  unfold asB at h
  cases d with
  | bl b =>
    obtain rfl := RepL.bl r
    refine ⟨b, rfl, ?_⟩
    cases b with
    | true => exact Fin.ok d1 h _ (RepL.of (.bl true))
    | false => exact k2 σ H1 ρ s1 M0 A _ (R.ext x1 d1) d1 h
  | _ => exact h.elim
theorem v_not (h : CE X E W .sh e1 m1) : CE X E W lv (.UnaryOp .Not e1 pos) (fun ρ => (m1 ρ >>= asB) >>= fun b => pure (.bl (!b))) := by
  obtain ⟨t, p, k⟩ := h
  refine ⟨_, pe_not p, fun σ H ρ s M0 A Q R dl h => ?_⟩
  dsimp only at h
  rw [bind_assoc'] at h
  refine k σ H ρ s M0 A _ R dl (h.bind.mono fun d s1 H1 _ x1 d1 h v r => ?_)
  unfold asB at h
  cases d with
  | bl b =>
    obtain rfl := RepL.bl r
    exact ⟨b, rfl, Fin.ok d1 h _ (RepL.of (.bl _))⟩
  | _ => exact h.elim
theorem c_if {c : Expr} (hc : CT X E W c c1) (h1 : CE X E W lv e1 m1) (h2 : CE X E W lv e2 m2) : CE X E W lv (.IfExp c e1 e2 pos) (fun ρ => c1 ρ >>= fun b => if b then m1 ρ else m2 ρ) := by
  obtain ⟨t, p, k⟩ := hc
  obtain ⟨t1, p1, k1⟩ := h1
  obtain ⟨t2, p2, k2⟩ := h2
  refine ⟨_, pe_ifExp p p1 p2, fun σ H ρ s M0 A Q R dl h => ?_⟩
  refine k σ H ρ s M0 A _ R dl (h.bind.mono fun b s1 H1 _ x1 d1 h => ?_)
  cases b with
  | true => exact k1 σ H1 ρ s1 M0 A _ (R.ext x1 d1) d1 h
  | false => exact k2 σ H1 ρ s1 M0 A _ (R.ext x1 d1) d1 h
end
end PL
end
section
set_option Elab.async false
set_option linter.all false
set_option maxRecDepth 100000
/-! PL3: the operators. -/
namespace PL
open PySem PySem.Spec L2

def addD : D → D → M D
  | .int i, .int j => pure (.int (i + j))
  | .str x, .str y => if x.length + y.length ≤ sizeLine then pure (.str (x ++ y)) else fail
  | .tup k l, .tup j r => if l.length + r.length ≤ sizeLine then pure (if l = [] then .tup j r else if r = [] then .tup k l else .tup false (l ++ r)) else fail
  | .lst l, .lst r => if l.length + r.length ≤ sizeLine then pure (.lst (l ++ r)) else fail
  | _, _ => fail
def subD : D → D → M D
  | .int i, .int j => pure (.int (i - j))
  | _, _ => fail
def mulOk (i j : Int) : Bool := decide (i.natAbs.log2 + j.natAbs.log2 < 1000000)
theorem mulOk_iff {i j : Int} (h : mulOk i j = true) : CMulW i j := of_decide_eq_true (p := i.natAbs.log2 + j.natAbs.log2 < 1000000) h
def mulD : D → D → M D
  | .int i, .int j => if mulOk i j then pure (.int (i * j)) else fail
  | _, _ => fail
def divOk (j : Int) : Bool := decide (j ≠ 0 ∧ j.natAbs.log2 < 9000)
def fdivD : D → D → M D
  | .int i, .int j => if divOk j then pure (.int (i.fdiv j)) else fail
  | _, _ => fail
def modD : D → D → M D
  | .int i, .int j => if j ≠ 0 then pure (.int (i.fmod j)) else fail
  | _, _ => fail
def powD : D → D → M D
  | .int i, .int j => if 0 ≤ j ∧ j ≤ 1000000 ∧ i.natAbs < 2 ^ 64 then pure (.int (i ^ j.toNat)) else fail
  | _, _ => fail
def negD : D → M D
  | .int i => pure (.int (-i))
  | _ => fail
def ltD : D → D → M D
  | .int i, .int j => pure (.bl (decide (i < j)))
  | _, _ => fail
def leD : D → D → M D
  | .int i, .int j => pure (.bl (decide (i ≤ j)))
  | _, _ => fail
def gtD : D → D → M D
  | .int i, .int j => pure (.bl (decide (j < i)))
  | _, _ => fail
def geD : D → D → M D
  | .int i, .int j => pure (.bl (decide (j ≤ i)))
  | _, _ => fail
def eqB (a b : D) : M Bool := match toPy a, toPy b with
  | some p, some q => if SeqAt.shaped p && SeqAt.shaped q then pure (PyData.eqv p q) else fail
  | _, _ => fail
def eqD (a b : D) : M D := eqB a b >>= fun k => pure (.bl k)
def neD (a b : D) : M D := eqB a b >>= fun k => pure (.bl (!k))
def isND : D → M D
  | .non => pure (.bl true)
  | _ => pure (.bl false)
def notND : D → M D
  | .non => pure (.bl false)
  | _ => pure (.bl true)

section
variable {X : Cx} {E : Ev} {W : XK} {lv : Lv}

theorem op_fdivG : OpR X (binaryOp .FloorDiv) (rI (fun _ j => j ≠ 0 ∧ j.natAbs.log2 < 9000) fun i j => .int (i.fdiv j)) := opI fun i j _ _ _ _ _ hc q =>
  PyProof.Rows.floordiv_int hc.1 q (.inl (PyProof.noPylong_of_log2 hc.2))

abbrev rAddD (K : PySem.W.Frag) : R2 := fun x y H Q => rI0 (fun i j => .int (i + j)) x y H Q ∨ (∃ i j, x = .str i ∧ y = .str j ∧ i.length + j.length ≤ sizeLine ∧ Q (.str (i ++ j)) H) ∨ rCatA K x y H Q ∨ rCat x y H Q
theorem op_addD : OpR X (binaryOp .Add) (rAddD X.K) := op_add.or (op_add_str.or (op_catA.or op_cat))
theorem d_add (hK : E.K = X.K) : OpD E W (rAddD X.K) addD := by
  intro σ H ρ s M0 A Q x y a b R dl ra rb h
  rw [← hK]
  unfold addD at h
  split at h
  · obtain rfl := ra.int
    obtain rfl := rb.int
    exact .inl ⟨_, _, rfl, rfl, h.ok dl _ (.int _)⟩
  · obtain rfl := ra.str
    obtain rfl := rb.str
    split at h
    · exact .inr (.inl ⟨_, _, rfl, rfl, by assumption, h.ok dl _ (.str _)⟩)
    · exact h.elim
  · have ta := sh_tupR ra
    have tb := sh_tupR rb
    obtain ⟨p, vs, rfl, h1, r1⟩ := sh_tup ra
    obtain ⟨q, us, rfl, h2, r2⟩ := sh_tup rb
    split at h
    · rename_i hl
      refine .inr (.inr (.inl ⟨p, q, vs, us, rfl, rfl, h1, h2, by rw [r1.length, r2.length]; exact hl, fun e => ?_, fun e' e => ?_, fun e' e z hz => ?_⟩))
      · subst e
        cases r1
        rw [if_pos rfl] at h
        exact h.ok dl _ tb
      · subst e
        cases r2
        have n1 := r1.ne e'
        rw [if_neg n1, if_pos rfl] at h
        exact h.ok dl _ ta
      · have n1 := r1.ne e'
        have n2 := r2.ne e
        rw [if_neg n1, if_neg n2] at h
        exact h.okAt (Ext.laid hz) (dl.laid hz) _ (new_tup (r1.append r2) R.mok hz)
    · exact h.elim
  · obtain ⟨p, vs, rfl, h1, r1⟩ := sh_lst ra
    obtain ⟨q, us, rfl, h2, r2⟩ := sh_lst rb
    split at h
    · rename_i hl
      refine .inr (.inr (.inr ⟨p, q, vs, us, rfl, rfl, h1, h2, by rw [r1.length, r2.length]; exact hl, fun z hz => ?_⟩))
      exact h.okAt (Ext.laid hz) (dl.laid hz) _ (new_lst (r1.append r2) R.mok hz)
    · exact h.elim
  · exact h.elim
theorem d_int {C : Int → Int → Prop} [∀ i j, Decidable (C i j)] {g : Int → Int → Int} {f : D → D → M D}
    (hf : ∀ a b s, f a b s ≠ .bad → ∃ i j, a = .int i ∧ b = .int j ∧ C i j ∧ f a b s = .ok (.int (g i j)) s) : OpD E W (rI C fun i j => .int (g i j)) f := by
  intro σ H ρ s M0 A Q x y a b R dl ra rb h
  obtain ⟨i, j, rfl, rfl, hc, e⟩ := hf a b s (fun e => by rw [e] at h; exact h)
  rw [e] at h
  obtain rfl := ra.int
  obtain rfl := rb.int
  exact ⟨i, j, rfl, rfl, hc, Fin.ok (α := D) dl (show Fin E W H ((Pure.pure (D.int (g i j)) : M D) s) _ from h) _ (.int _)⟩
theorem d_int0 {g : Int → Int → V} {gd : Int → Int → D} {f : D → D → M D} (hg : ∀ Mv H i j, Rep E Mv H (g i j) (gd i j))
    (hf : ∀ a b s, f a b s ≠ .bad → ∃ i j, a = .int i ∧ b = .int j ∧ f a b s = .ok (gd i j) s) : OpD E W (rI0 g) f := by
  intro σ H ρ s M0 A Q x y a b R dl ra rb h
  obtain ⟨i, j, rfl, rfl, e⟩ := hf a b s (fun e => by rw [e] at h; exact h)
  rw [e] at h
  obtain rfl := ra.int
  obtain rfl := rb.int
  exact ⟨i, j, rfl, rfl, Fin.ok (α := D) dl (show Fin E W H ((Pure.pure (gd i j) : M D) s) _ from h) _ (hg _ _ _ _)⟩
theorem d_sub : OpD E W (rI0 fun i j => .int (i - j)) subD := d_int0 (fun _ _ _ _ => .int _) fun a b s h => by
  unfold subD at h ⊢
  split at h <;> first | exact absurd rfl h | exact ⟨_, _, rfl, rfl, rfl⟩
theorem d_mul : OpD E W (rI CMulW fun i j => .int (i * j)) mulD := by
  intro σ H ρ s M0 A Q x y a b R dl ra rb h
  unfold mulD at h
  split at h
  · split at h
    · rename_i hc
      obtain rfl := ra.int
      obtain rfl := rb.int
      exact ⟨_, _, rfl, rfl, mulOk_iff hc, h.ok dl _ (.int _)⟩
    · exact h.elim
  · exact h.elim
theorem d_fdiv : OpD E W (rI (fun _ j => j ≠ 0 ∧ j.natAbs.log2 < 9000) fun i j => .int (i.fdiv j)) fdivD := by
  intro σ H ρ s M0 A Q x y a b R dl ra rb h
  unfold fdivD at h
  split at h
  · split at h
    · rename_i hc
      obtain rfl := ra.int
      obtain rfl := rb.int
      exact ⟨_, _, rfl, rfl, of_decide_eq_true hc, h.ok dl _ (.int _)⟩
    · exact h.elim
  · exact h.elim
theorem d_mod : OpD E W (rI (fun _ j => j ≠ 0) fun i j => .int (i.fmod j)) modD := by
  intro σ H ρ s M0 A Q x y a b R dl ra rb h
  unfold modD at h
  split at h
  · split at h
    · rename_i hc
      obtain rfl := ra.int
      obtain rfl := rb.int
      exact ⟨_, _, rfl, rfl, hc, h.ok dl _ (.int _)⟩
    · exact h.elim
  · exact h.elim
theorem d_pow : OpD E W (rI CPow fun i j => .int (i ^ j.toNat)) powD := by
  intro σ H ρ s M0 A Q x y a b R dl ra rb h
  unfold powD at h
  split at h
  · split at h
    · rename_i hc
      obtain rfl := ra.int
      obtain rfl := rb.int
      exact ⟨_, _, rfl, rfl, hc, h.ok dl _ (.int _)⟩
    · exact h.elim
  · exact h.elim
theorem d_lt : OpD E W (rI0 fun i j => .bl (decide (i < j))) ltD := d_int0 (fun _ _ _ _ => .bl _) fun a b s h => by
  unfold ltD at h ⊢
  split at h <;> first | exact absurd rfl h | exact ⟨_, _, rfl, rfl, rfl⟩
theorem d_le : OpD E W (rI0 fun i j => .bl (decide (i ≤ j))) leD := d_int0 (fun _ _ _ _ => .bl _) fun a b s h => by
  unfold leD at h ⊢
  split at h <;> first | exact absurd rfl h | exact ⟨_, _, rfl, rfl, rfl⟩
theorem d_gt : OpD E W (rI0 fun i j => .bl (decide (j < i))) gtD := d_int0 (fun _ _ _ _ => .bl _) fun a b s h => by
  unfold gtD at h ⊢
  split at h <;> first | exact absurd rfl h | exact ⟨_, _, rfl, rfl, rfl⟩
theorem d_ge : OpD E W (rI0 fun i j => .bl (decide (j ≤ i))) geD := d_int0 (fun _ _ _ _ => .bl _) fun a b s h => by
  unfold geD at h ⊢
  split at h <;> first | exact absurd rfl h | exact ⟨_, _, rfl, rfl, rfl⟩
theorem d_eq (hK : E.K = X.K) : OpD E W (rEqD X.K) eqD := by
  intro σ H ρ s M0 A Q x y a b R dl ra rb h
  rw [← hK]
  unfold eqD eqB at h
  split at h
  · rename_i p q e1 e2
    split at h
    · rename_i hs
      rw [Bool.and_eq_true] at hs
      exact ⟨p, q, ra.dp e1, rb.dp e2, hs.1, hs.2, h.ok dl _ (.bl _)⟩
    · exact h.elim
  · exact h.elim
theorem d_ne (hK : E.K = X.K) : OpD E W (rNeD X.K) neD := by
  intro σ H ρ s M0 A Q x y a b R dl ra rb h
  rw [← hK]
  unfold neD eqB at h
  split at h
  · rename_i p q e1 e2
    split at h
    · rename_i hs
      rw [Bool.and_eq_true] at hs
      exact ⟨p, q, ra.dp e1, rb.dp e2, hs.1, hs.2, h.ok dl _ (.bl _)⟩
    · exact h.elim
  · exact h.elim
theorem d_isN : OpD E W (fun x y H Q => y = .non ∧ Q (.bl (decide (x = .non))) H) (fun a b => match b with | .non => isND a | _ => fail) := by
  intro σ H ρ s M0 A Q x y a b R dl ra rb h
  cases b with
  | non =>
    obtain rfl := rb.non
    refine ⟨rfl, ?_⟩
    have hx : ∀ (d : D), RepL E M0 A H .sh x d → d ≠ .non → x ≠ .non := fun d r n e => by
      subst e
      rcases r with r | ⟨_, _, _, _, _, e, _⟩ | ⟨_, _, _, _, _, e, _⟩
      · cases r; exact n rfl
      · cases e
      · cases e
    cases a with
    | non => obtain rfl := ra.non; exact h.ok dl _ (.bl true)
    | _ => (rw [decide_eq_false (hx _ ra (fun z => nomatch z))]; exact Fin.ok dl h _ (.bl false))
  | _ => exact h.elim
theorem d_notN : OpD E W (fun x y H Q => y = .non ∧ Q (.bl (!decide (x = .non))) H) (fun a b => match b with | .non => notND a | _ => fail) := by
  intro σ H ρ s M0 A Q x y a b R dl ra rb h
  cases b with
  | non =>
    obtain rfl := rb.non
    refine ⟨rfl, ?_⟩
    have hx : ∀ (d : D), RepL E M0 A H .sh x d → d ≠ .non → x ≠ .non := fun d r n e => by
      subst e
      rcases r with r | ⟨_, _, _, _, _, e, _⟩ | ⟨_, _, _, _, _, e, _⟩
      · cases r; exact n rfl
      · cases e
      · cases e
    cases a with
    | non => obtain rfl := ra.non; exact h.ok dl _ (.bl false)
    | _ => (rw [decide_eq_false (hx _ ra (fun z => nomatch z))]; exact Fin.ok dl h _ (.bl true))
  | _ => exact h.elim

variable {e1 e2 : Expr} {m1 m2 : PEnv → M D} {pos : Pos} {k : Nat}
theorem b_add (c : Ctx X E W k) (ha : CE X E W .sh e1 m1) (hb : CE X E W .sh e2 m2) : CE X E W lv (.BinOp e1 .Add e2 pos) (fun ρ => m1 ρ >>= fun a => m2 ρ >>= fun b => addD a b) := c_bin op_addD (d_add c.K) ha hb
theorem b_sub (ha : CE X E W .sh e1 m1) (hb : CE X E W .sh e2 m2) : CE X E W lv (.BinOp e1 .Sub e2 pos) (fun ρ => m1 ρ >>= fun a => m2 ρ >>= fun b => subD a b) := c_bin op_sub d_sub ha hb
theorem b_mul (ha : CE X E W .sh e1 m1) (hb : CE X E W .sh e2 m2) : CE X E W lv (.BinOp e1 .Mult e2 pos) (fun ρ => m1 ρ >>= fun a => m2 ρ >>= fun b => mulD a b) := c_bin op_mulW d_mul ha hb
theorem b_fdiv (ha : CE X E W .sh e1 m1) (hb : CE X E W .sh e2 m2) : CE X E W lv (.BinOp e1 .FloorDiv e2 pos) (fun ρ => m1 ρ >>= fun a => m2 ρ >>= fun b => fdivD a b) := c_bin op_fdivG d_fdiv ha hb
theorem b_mod (ha : CE X E W .sh e1 m1) (hb : CE X E W .sh e2 m2) : CE X E W lv (.BinOp e1 .Mod e2 pos) (fun ρ => m1 ρ >>= fun a => m2 ρ >>= fun b => modD a b) := c_bin op_modN d_mod ha hb
theorem b_pow (ha : CE X E W .sh e1 m1) (hb : CE X E W .sh e2 m2) : CE X E W lv (.BinOp e1 .Pow e2 pos) (fun ρ => m1 ρ >>= fun a => m2 ρ >>= fun b => powD a b) := c_bin op_pow d_pow ha hb
theorem b_lt (ha : CE X E W .sh e1 m1) (hb : CE X E W .sh e2 m2) : CE X E W lv (.Compare e1 [.Lt] [e2] pos) (fun ρ => m1 ρ >>= fun a => m2 ρ >>= fun b => ltD a b) := c_cmp op_lt d_lt ha hb (nomark _)
theorem b_le (ha : CE X E W .sh e1 m1) (hb : CE X E W .sh e2 m2) : CE X E W lv (.Compare e1 [.LtE] [e2] pos) (fun ρ => m1 ρ >>= fun a => m2 ρ >>= fun b => leD a b) := c_cmp op_le d_le ha hb (nomark _)
theorem b_gt (ha : CE X E W .sh e1 m1) (hb : CE X E W .sh e2 m2) : CE X E W lv (.Compare e1 [.Gt] [e2] pos) (fun ρ => m1 ρ >>= fun a => m2 ρ >>= fun b => gtD a b) := c_cmp op_gt d_gt ha hb (nomark _)
theorem b_ge (ha : CE X E W .sh e1 m1) (hb : CE X E W .sh e2 m2) : CE X E W lv (.Compare e1 [.GtE] [e2] pos) (fun ρ => m1 ρ >>= fun a => m2 ρ >>= fun b => geD a b) := c_cmp op_ge d_ge ha hb (nomark _)
theorem b_eq (c : Ctx X E W k) (ha : CE X E W .sh e1 m1) (hb : CE X E W .sh e2 m2) : CE X E W lv (.Compare e1 [.Eq] [e2] pos) (fun ρ => m1 ρ >>= fun a => m2 ρ >>= fun b => eqD a b) := c_cmp (op_eqD c.rm.units) (d_eq c.K) ha hb (nomark _)
theorem b_ne (c : Ctx X E W k) (ha : CE X E W .sh e1 m1) (hb : CE X E W .sh e2 m2) : CE X E W lv (.Compare e1 [.NotEq] [e2] pos) (fun ρ => m1 ρ >>= fun a => m2 ρ >>= fun b => neD a b) := c_cmp (op_neD c.rm.units) (d_ne c.K) ha hb (nomark _)
theorem b_isN {j : Nat} {p : Pos} (ha : CE X E W .sh e1 m1) : CE X E W lv (.Compare e1 [.Is] [.Constant .none j p] pos) (fun ρ => m1 ρ >>= isND) := by
  have h := c_cmp (lv := lv) (pos := pos) op_isN (d_isN (E := E) (W := W)) ha (c_non (j := j) (pos := p)) (nomark _)
  exact h
theorem b_notN {j : Nat} {p : Pos} (ha : CE X E W .sh e1 m1) : CE X E W lv (.Compare e1 [.IsNot] [.Constant .none j p] pos) (fun ρ => m1 ρ >>= notND) := by
  have h := c_cmp (lv := lv) (pos := pos) op_notN (d_notN (E := E) (W := W)) ha (c_non (j := j) (pos := p)) (nomark _)
  exact h
theorem t_lt (ha : CE X E W .sh e1 m1) (hb : CE X E W .sh e2 m2) : CT X E W (.Compare e1 [.Lt] [e2] pos) (fun ρ => (m1 ρ >>= fun a => m2 ρ >>= fun b => ltD a b) >>= asB) := t_cmp op_lt d_lt ha hb (nomark _)
theorem t_le (ha : CE X E W .sh e1 m1) (hb : CE X E W .sh e2 m2) : CT X E W (.Compare e1 [.LtE] [e2] pos) (fun ρ => (m1 ρ >>= fun a => m2 ρ >>= fun b => leD a b) >>= asB) := t_cmp op_le d_le ha hb (nomark _)
theorem t_gt (ha : CE X E W .sh e1 m1) (hb : CE X E W .sh e2 m2) : CT X E W (.Compare e1 [.Gt] [e2] pos) (fun ρ => (m1 ρ >>= fun a => m2 ρ >>= fun b => gtD a b) >>= asB) := t_cmp op_gt d_gt ha hb (nomark _)
theorem t_ge (ha : CE X E W .sh e1 m1) (hb : CE X E W .sh e2 m2) : CT X E W (.Compare e1 [.GtE] [e2] pos) (fun ρ => (m1 ρ >>= fun a => m2 ρ >>= fun b => geD a b) >>= asB) := t_cmp op_ge d_ge ha hb (nomark _)
theorem t_eq (c : Ctx X E W k) (ha : CE X E W .sh e1 m1) (hb : CE X E W .sh e2 m2) : CT X E W (.Compare e1 [.Eq] [e2] pos) (fun ρ => (m1 ρ >>= fun a => m2 ρ >>= fun b => eqD a b) >>= asB) := t_cmp (op_eqD c.rm.units) (d_eq c.K) ha hb (nomark _)
theorem t_ne (c : Ctx X E W k) (ha : CE X E W .sh e1 m1) (hb : CE X E W .sh e2 m2) : CT X E W (.Compare e1 [.NotEq] [e2] pos) (fun ρ => (m1 ρ >>= fun a => m2 ρ >>= fun b => neD a b) >>= asB) := t_cmp (op_neD c.rm.units) (d_ne c.K) ha hb (nomark _)
theorem t_isN {j : Nat} {p : Pos} (ha : CE X E W .sh e1 m1) : CT X E W (.Compare e1 [.Is] [.Constant .none j p] pos) (fun ρ => (m1 ρ >>= isND) >>= asB) :=
  t_cmp (pos := pos) op_isN (d_isN (E := E) (W := W)) ha (c_non (j := j) (pos := p)) (nomark _)
theorem t_notN {j : Nat} {p : Pos} (ha : CE X E W .sh e1 m1) : CT X E W (.Compare e1 [.IsNot] [.Constant .none j p] pos) (fun ρ => (m1 ρ >>= notND) >>= asB) :=
  t_cmp (pos := pos) op_notN (d_notN (E := E) (W := W)) ha (c_non (j := j) (pos := p)) (nomark _)
theorem b_neg (ha : CE X E W .sh e1 m1) : CE X E W lv (.UnaryOp .USub e1 pos) (fun ρ => m1 ρ >>= negD) := by
  refine CE.any ?_
  obtain ⟨t, p, kk⟩ := ha
  refine ⟨_, pe_un un_neg p, fun σ H ρ s M0 A Q R dl h => ?_⟩
  refine kk σ H ρ s M0 A _ R dl (h.bind.mono fun d s1 H1 _ x1 d1 h v r => ?_)
  unfold negD at h
  split at h
  · obtain rfl := r.int
    exact ⟨_, rfl, h.ok d1 _ (Rep.int _)⟩
  · exact h.elim
end
end PL
end
section
set_option Elab.async false
set_option linter.all false
set_option maxRecDepth 100000
/-! PL4: places, cuts, membership, lengths, calls of built-ins, attributes, dicts read. -/
namespace PL
open PySem PySem.Spec L2

/-! ### plain -/
def subSeqO : D → D → Option D
  | .lst l, .int i => atI l i
  | .tup _ l, .int i => atI l i
  | .str z, .int i => if z.length ≤ sizeLine then (atI z.cps.toList i).map fun c => .str ⟨#[c]⟩ else none
  | _, _ => none
def subSeq (a b : D) : M D := lift (subSeqO a b)
def cutL {α : Type} (xs : List α) (lo hi : Option Int) : List α := (xs.drop (HT.sIx xs.length 0 lo)).take (HT.sIx xs.length xs.length hi - HT.sIx xs.length 0 lo)
def sliceO (d : D) (lo hi : Option Int) : Option D := match d with
  | .lst l => some (.lst (cutL l lo hi))
  | .tup k l => some (if HT.sIx l.length 0 lo = 0 ∧ HT.sIx l.length l.length hi = l.length then .tup k l else .tup false (cutL l lo hi))
  | .str z => if z.length ≤ sizeLine then some (.str (cutS z lo hi)) else none
  | _ => none
def sliceD (d : D) (lo hi : Option Int) : M D := lift (sliceO d lo hi)
def asIO : D → Option Int
  | .int i => some i
  | _ => none
def asI (d : D) : M Int := lift (asIO d)
def asLO : D → Option (List D)
  | .lst l => some l
  | _ => none
def asL (d : D) : M (List D) := lift (asLO d)
def inSeqO (x c : D) : Option Bool := match toPy x, toPy c with
  | some p, some (.list qs) => if SeqAt.shaped p && SeqAt.shaped (.list qs) then some (qs.any fun z => PyData.eqv z p) else none
  | some p, some (.tuple qs) => if SeqAt.shaped p && SeqAt.shaped (.tuple qs) then some (qs.any fun z => PyData.eqv z p) else none
  | _, _ => none
def inSeqD (x c : D) : M D := lift ((inSeqO x c).map .bl)
def ninSeqD (x c : D) : M D := lift ((inSeqO x c).map fun k => .bl (!k))
abbrev DK := Sum Key (List Key)
def keyK : D → Option Key
  | .int i => some (.inl i)
  | .str x => some (.inr x)
  | _ => none
def dkey : D → Option DK
  | .int i => some (.inl (.inl i))
  | .str x => some (.inl (.inr x))
  | .tup false l => (l.mapM keyK).map .inr
  | _ => none
def findD (l : List (D × D)) (k : DK) : Option D := (l.find? fun p => decide (dkey p.1 = some k)).map (·.2)
/-- what a dict holds at a key: none, if the key is none of its kind -/
def lookD (d y : D) : Option (Option D) := match d, dkey y with
  | .dic false l, some (.inl k) => some (findD l (.inl k))
  | .dic true l, some (.inr k) => some (findD l (.inr k))
  | _, _ => none
def subDic (d y : D) : M D := lift ((lookD d y).bind id)
def isDicO : D → Option Unit
  | .dic _ _ => some ()
  | _ => none
def getDic (d y z : D) : M D := lift ((lookD d y).map fun o => o.getD z)
def inDicD (y d : D) : M D := lift ((lookD d y).map fun o => .bl o.isSome)
def ninDicD (y d : D) : M D := lift ((lookD d y).map fun o => .bl (!o.isSome))
def lenO : D → Option D
  | .lst l => some (.int l.length)
  | .tup _ l => some (.int l.length)
  | .str z => if z.length ≤ sizeLine then some (.int z.length) else none
  | _ => none
def lenD (d : D) : M D := lift (lenO d)

theorem RepA.atI {E : Ev} {Mv : Addr → Prop} {H : Hp} {vs : List V} {ds : List D} (r : RepA E Mv H vs ds) {i : Int} {d : D} (h : L2.atI ds i = some d) : ∃ v, L2.atI vs i = some v ∧ Rep E Mv H v d := by
  unfold L2.atI at h ⊢
  rw [r.length]
  cases e : ixN ds.length i with
  | none => rw [e] at h; cases h
  | some j =>
    rw [e] at h
    obtain ⟨v, h1, h2⟩ := r.get (show ds[j]? = some d from h)
    exact ⟨v, h1, h2⟩
theorem RepA.cut {E : Ev} {Mv : Addr → Prop} {H : Hp} {vs : List V} {ds : List D} (r : RepA E Mv H vs ds) (lo hi : Option Int) : RepA E Mv H (cutV vs lo hi) (cutL ds lo hi) := by
  unfold cutV cutL
  rw [r.length]
  exact (r.drop _).take _
theorem cutL_len {α : Type} (xs : List α) (lo hi : Option Int) : (cutL xs lo hi).length ≤ xs.length := by
  unfold cutL
  rw [List.length_take, List.length_drop]
  omega

section
variable {X : Cx} {E : Ev} {W : XK} {lv : Lv} {k : Nat} {e1 e2 e3 : Expr} {m1 m2 m3 : PEnv → M D} {pos p2 : Pos}

theorem c_ixR {r : R2} {f : D → D → M D} (hr : IxR X r) (hf : OpD E W r f) (ha : CE X E W .sh e1 m1) (hb : CE X E W .sh e2 m2) (hs : PlainIx e2) : CE X E W lv (.Subscript e1 e2 pos) (fun ρ => m1 ρ >>= fun a => m2 ρ >>= fun b => f a b) := by
  refine CE.any ?_
  obtain ⟨ta, pa, k1⟩ := ha
  obtain ⟨tb, pb, k2⟩ := hb
  exact ⟨_, pe_ix hr pa pb hs, fun σ H ρ s M0 A Q R dl h => bin_go hf k1 k2 R dl h⟩
theorem d_ix (hK : E.K = X.K) : OpD E W (rIx X.K) subSeq := by
  intro σ H ρ s M0 A Q x y a b R dl ra rb h
  rw [← hK]
  obtain ⟨z, e, g⟩ := h.lift
  have g := g H Ext.refl dl
  unfold subSeqO at e
  split at e
  · obtain rfl := rb.int
    obtain ⟨p, vs, rfl, h1, r1⟩ := sh_lst ra
    obtain ⟨v, e, rv⟩ := r1.atI e
    exact .inl ⟨p, vs, _, v, rfl, rfl, SqL.of h1, e, g v rv⟩
  · obtain rfl := rb.int
    obtain ⟨p, vs, rfl, h1, r1⟩ := sh_tup ra
    obtain ⟨v, e, rv⟩ := r1.atI e
    exact .inr (.inl ⟨p, vs, _, v, rfl, rfl, h1, e, g v rv⟩)
  · split at e
    · rename_i hz
      rw [Option.map_eq_some_iff] at e
      obtain ⟨c, e, rfl⟩ := e
      obtain rfl := rb.int
      obtain rfl := ra.str
      exact .inr (.inr ⟨_, _, _, rfl, rfl, hz, e, g _ (Rep.str _)⟩)
    · cases e
  · cases e
theorem x_seq (c : Ctx X E W k) (ha : CE X E W .sh e1 m1) (hb : CE X E W .sh e2 m2) (hs : PlainIx e2 := by exact fun _ _ => rfl) : CE X E W lv (.Subscript e1 e2 pos) (fun ρ => m1 ρ >>= fun a => m2 ρ >>= fun b => subSeq a b) :=
  c_ixR ix_seq (d_ix c.K) ha hb hs

/-! ### cuts -/
def CO (X : Cx) (E : Ev) (W : XK) (e : Option Expr) (m : PEnv → M (Option Int)) : Prop :=
  ∃ t : TO, PO X e t ∧ ∀ (σ : L2.St) (H : Hp) (ρ : PEnv) (s : Dl) (M0 : Addr → Prop) (A : Nat → Option Addr) (Q : Option Int → Hp → Prop), ER E M0 A H σ ρ → DealAt E H s →
    Fin E W H (m ρ s) (fun o _ H' => Q o H') → t σ H Q
theorem o_none : CO X E W none (fun _ => pure none) := ⟨_, po_none, fun σ H ρ s M0 A Q R dl h => h.ok dl⟩
theorem o_some (h : CE X E W .sh e1 m1) : CO X E W (some e1) (fun ρ => m1 ρ >>= fun d => asI d >>= fun i => pure (some i)) := by
  obtain ⟨t, p, k⟩ := h
  refine ⟨_, po_some p, fun σ H ρ s M0 A Q R dl h => ?_⟩
  refine k σ H ρ s M0 A _ R dl (h.bind.mono fun d s1 H1 _ x1 d1 h v r => ?_)
  rw [asI] at h
  obtain ⟨i, e, g⟩ := h.bind.lift
  have g := g H1 Ext.refl d1
  unfold asIO at e
  split at e
  · cases e
    obtain rfl := r.int
    exact ⟨_, rfl, g.ok d1⟩
  · cases e
abbrev rSlD (K : PySem.W.Frag) : V → Option Int → Option Int → Hp → VK → Prop := fun x lo hi H Q => rSlL K x lo hi H Q ∨ rSlA K x lo hi H Q ∨ rSlS x lo hi H Q
theorem sl_D : SlR X (rSlD X.K) := sl_list.or (sl_tupA.or sl_str)
theorem c_cut {lo hi : Option Expr} {ml mh : PEnv → M (Option Int)} (c : Ctx X E W k) (ha : CE X E W .sh e1 m1) (hl : CO X E W lo ml) (hu : CO X E W hi mh) :
    CE X E W lv (.Subscript e1 (.Slice lo hi none p2) pos) (fun ρ => m1 ρ >>= fun a => ml ρ >>= fun l => mh ρ >>= fun h => sliceD a l h) := by
  refine CE.any ?_
  obtain ⟨ta, pa, k1⟩ := ha
  obtain ⟨tl, pl, k2⟩ := hl
  obtain ⟨tu, pu, k3⟩ := hu
  refine ⟨_, pe_slice sl_D pa pl pu, fun σ H ρ s M0 A Q R dl h => ?_⟩
  refine k1 σ H ρ s M0 A _ R dl (h.bind.mono fun a s1 H1 _ x1 d1 h v r => ?_)
  have R1 := R.ext x1 d1
  refine k2 σ H1 ρ s1 M0 A _ R1 d1 (h.bind.mono fun l s2 H2 _ x2 d2 h => ?_)
  have R2 := R1.ext x2 d2
  refine k3 σ H2 ρ s2 M0 A _ R2 d2 (h.bind.mono fun u s3 H3 _ x3 d3 h => ?_)
  have R3 := R2.ext x3 d3
  have ra := (r.ext R1 x2).ext R2 x3
  obtain ⟨z, e, g⟩ := h.lift
  rw [← c.K]
  cases a with
  | lst zs =>
    cases e
    obtain ⟨p, vs, rfl, h1, r1⟩ := sh_lst ra
    exact .inl ⟨p, vs, rfl, SqL.of h1, fun q hq => g _ (Ext.laid hq) (d3.laid hq) _ (new_lst (r1.cut l u) R3.mok hq)⟩
  | tup kk zs =>
    cases e
    have tr := sh_tupR ra
    obtain ⟨p, vs, rfl, h1, r1⟩ := sh_tup ra
    refine .inr (.inl ⟨p, vs, rfl, h1, fun hw => ?_, fun hw q hq => ?_⟩)
    · rw [r1.length] at hw
      rw [if_pos hw] at g
      exact g _ Ext.refl d3 _ tr
    · rw [r1.length] at hw
      rw [if_neg hw] at g
      exact g _ (Ext.laid hq) (d3.laid hq) _ (new_tup (r1.cut l u) R3.mok hq)
  | str z =>
    obtain rfl := ra.str
    have e : (if z.length ≤ sizeLine then some (D.str (cutS z l u)) else none) = some _ := e
    split at e
    · rename_i hz
      cases e
      exact .inr (.inr ⟨_, rfl, hz, g _ Ext.refl d3 _ (Rep.str _)⟩)
    · cases e
  | _ => cases e
/-- a cut of a list, as a new list -/
theorem f_cut {lo hi : Option Expr} {ml mh : PEnv → M (Option Int)} (c : Ctx X E W k) (ha : CE X E W .sh e1 m1) (hl : CO X E W lo ml) (hu : CO X E W hi mh) :
    CF X E W (.Subscript e1 (.Slice lo hi none p2) pos) (fun ρ => m1 ρ >>= fun a => ml ρ >>= fun l => mh ρ >>= fun h => asL a >>= fun zs => pure (cutL zs l h)) := by
  obtain ⟨ta, pa, k1⟩ := ha
  obtain ⟨tl, pl, k2⟩ := hl
  obtain ⟨tu, pu, k3⟩ := hu
  refine ⟨_, pe_slice sl_D pa pl pu, fun σ H ρ s M0 A Q R dl h => ?_⟩
  refine k1 σ H ρ s M0 A _ R dl (h.bind.mono fun a s1 H1 _ x1 d1 h v r => ?_)
  have R1 := R.ext x1 d1
  refine k2 σ H1 ρ s1 M0 A _ R1 d1 (h.bind.mono fun l s2 H2 _ x2 d2 h => ?_)
  have R2 := R1.ext x2 d2
  refine k3 σ H2 ρ s2 M0 A _ R2 d2 (h.bind.mono fun u s3 H3 _ x3 d3 h => ?_)
  have R3 := R2.ext x3 d3
  have ra := (r.ext R1 x2).ext R2 x3
  rw [← c.K]
  obtain ⟨zs, e, g⟩ := h.bind.lift
  have g := g H3 Ext.refl d3
  unfold asLO at e
  split at e
  · cases e
    obtain ⟨p, vs, rfl, h1, r1⟩ := sh_lst ra
    refine .inl ⟨p, vs, rfl, SqL.of h1, fun q hq => g.okAt (Ext.laid hq) (d3.laid hq) q _ (was_free ((x1.trans x2).trans x3) d3 hq) upd_same ((r1.cut l u).laidN hq)⟩
  · cases e

/-! ### membership -/
def rInDA (K : PySem.W.Frag) (neg : Bool) : R2 := fun x y H Q => ∃ d ds, Dp K H x d ∧ (Dp K H y (.list ds) ∨ Dp K H y (.tuple ds)) ∧ SeqAt.shaped d = true ∧ (PyData.canLayAll0 ds = true ∧ PyData.depthAll ds ≤ 64) ∧ Q (.bl (if neg then !(ds.any fun z => PyData.eqv z d) else ds.any fun z => PyData.eqv z d)) H
theorem op_inDA (hu : X.A.units + 65 < cLine) : OpR X (compareOp .In) (rInDA X.K false) := by
  intro pins s σ H x y v u Q I rx ry h
  obtain ⟨d, ds, hd, he, sd, ⟨c1, c2⟩, q⟩ := h
  obtain ⟨as, r1⟩ := Dp.reads I d x v hd rx
  have hr : X.A.units + 1 + min (PyData.depthAll ds) d.depth < cLine := Nat.lt_of_le_of_lt (by omega) hu
  rcases he with he | he
  · obtain ⟨bs, r2⟩ := Dp.reads I (.list ds) y u he ry
    exact SeqAt.in_list_reads r2 r1 c1 (SeqAt.canLay_of_shaped sd) hr ⟨.bl _, H, I, rfl, q⟩
  · obtain ⟨bs, r2⟩ := Dp.reads I (.tuple ds) y u he ry
    exact SeqAt.in_tuple_reads r2 r1 c1 (SeqAt.canLay_of_shaped sd) hr ⟨.bl _, H, I, rfl, q⟩
theorem op_notInDA (hu : X.A.units + 65 < cLine) : OpR X (compareOp .NotIn) (rInDA X.K true) := by
  intro pins s σ H x y v u Q I rx ry h
  obtain ⟨d, ds, hd, he, sd, ⟨c1, c2⟩, q⟩ := h
  obtain ⟨as, r1⟩ := Dp.reads I d x v hd rx
  have hr : X.A.units + 1 + min (PyData.depthAll ds) d.depth < cLine := Nat.lt_of_le_of_lt (by omega) hu
  rcases he with he | he
  · obtain ⟨bs, r2⟩ := Dp.reads I (.list ds) y u he ry
    exact SeqAt.notIn_list_reads r2 r1 c1 (SeqAt.canLay_of_shaped sd) hr ⟨.bl _, H, I, rfl, q⟩
  · obtain ⟨bs, r2⟩ := Dp.reads I (.tuple ds) y u he ry
    exact SeqAt.notIn_tuple_reads r2 r1 c1 (SeqAt.canLay_of_shaped sd) hr ⟨.bl _, H, I, rfl, q⟩
theorem shaped_list {qs : List PyData} (h : SeqAt.shaped (.list qs) = true) : PyData.canLayAll0 qs = true ∧ PyData.depthAll qs ≤ 64 := by
  have h1 := SeqAt.canLay_of_shaped h
  have h2 := SeqAt.depth_of_shaped h
  simp only [PyData.canLay0] at h1
  simp only [PyData.depth] at h2
  exact ⟨h1, by omega⟩
theorem shaped_tuple {qs : List PyData} (h : SeqAt.shaped (.tuple qs) = true) : PyData.canLayAll0 qs = true ∧ PyData.depthAll qs ≤ 64 := by
  have h1 := SeqAt.canLay_of_shaped h
  have h2 := SeqAt.depth_of_shaped h
  simp only [PyData.canLay0] at h1
  simp only [PyData.depth] at h2
  exact ⟨h1, by omega⟩
theorem inSeq_of {a b : D} {k : Bool} (e : inSeqO a b = some k) : ∃ p qs, toPy a = some p ∧ (toPy b = some (.list qs) ∨ toPy b = some (.tuple qs)) ∧ SeqAt.shaped p = true ∧ (PyData.canLayAll0 qs = true ∧ PyData.depthAll qs ≤ 64) ∧ k = qs.any fun z => PyData.eqv z p := by
  unfold inSeqO at e
  split at e
  · rename_i p qs e1 e2
    split at e
    · rename_i hs
      rw [Bool.and_eq_true] at hs
      cases e
      exact ⟨p, qs, e1, .inl e2, hs.1, shaped_list hs.2, rfl⟩
    · cases e
  · rename_i p qs e1 e2
    split at e
    · rename_i hs
      rw [Bool.and_eq_true] at hs
      cases e
      exact ⟨p, qs, e1, .inr e2, hs.1, shaped_tuple hs.2, rfl⟩
    · cases e
  · cases e
theorem d_in (hK : E.K = X.K) : OpD E W (rInDA X.K false) inSeqD := by
  intro σ H ρ s M0 A Q x y a b R dl ra rb h
  rw [← hK]
  obtain ⟨z, e, h⟩ := h.lift
  rw [Option.map_eq_some_iff] at e
  obtain ⟨kk, e, rfl⟩ := e
  obtain ⟨p, qs, e1, e2, hs, hc, rfl⟩ := inSeq_of e
  exact ⟨p, qs, ra.dp e1, e2.imp (fun z => rb.dp z) fun z => rb.dp z, hs, hc, h _ Ext.refl dl _ (.bl _)⟩
theorem d_nin (hK : E.K = X.K) : OpD E W (rInDA X.K true) ninSeqD := by
  intro σ H ρ s M0 A Q x y a b R dl ra rb h
  rw [← hK]
  obtain ⟨z, e, h⟩ := h.lift
  rw [Option.map_eq_some_iff] at e
  obtain ⟨kk, e, rfl⟩ := e
  obtain ⟨p, qs, e1, e2, hs, hc, rfl⟩ := inSeq_of e
  exact ⟨p, qs, ra.dp e1, e2.imp (fun z => rb.dp z) fun z => rb.dp z, hs, hc, h _ Ext.refl dl _ (.bl _)⟩
theorem Ctx.u65 (c : Ctx X E W k) : X.A.units + 65 < cLine := by have := c.rm.un; omega
theorem Ctx.u1 (c : Ctx X E W k) : X.A.units + 1 < cLine := by have := c.rm.un; omega
theorem b_in (c : Ctx X E W k) (ha : CE X E W .sh e1 m1) (hb : CE X E W .sh e2 m2) (hm : behindInMarks .In e2 = false := by rfl) : CE X E W lv (.Compare e1 [.In] [e2] pos) (fun ρ => m1 ρ >>= fun a => m2 ρ >>= fun b => inSeqD a b) := c_cmp (op_inDA c.u65) (d_in c.K) ha hb hm
theorem b_nin (c : Ctx X E W k) (ha : CE X E W .sh e1 m1) (hb : CE X E W .sh e2 m2) (hm : behindInMarks .NotIn e2 = false := by rfl) : CE X E W lv (.Compare e1 [.NotIn] [e2] pos) (fun ρ => m1 ρ >>= fun a => m2 ρ >>= fun b => ninSeqD a b) := c_cmp (op_notInDA c.u65) (d_nin c.K) ha hb hm
theorem t_in (c : Ctx X E W k) (ha : CE X E W .sh e1 m1) (hb : CE X E W .sh e2 m2) (hm : behindInMarks .In e2 = false := by rfl) : CT X E W (.Compare e1 [.In] [e2] pos) (fun ρ => (m1 ρ >>= fun a => m2 ρ >>= fun b => inSeqD a b) >>= asB) := t_cmp (op_inDA c.u65) (d_in c.K) ha hb hm
theorem t_nin (c : Ctx X E W k) (ha : CE X E W .sh e1 m1) (hb : CE X E W .sh e2 m2) (hm : behindInMarks .NotIn e2 = false := by rfl) : CT X E W (.Compare e1 [.NotIn] [e2] pos) (fun ρ => (m1 ρ >>= fun a => m2 ρ >>= fun b => ninSeqD a b) >>= asB) := t_cmp (op_notInDA c.u65) (d_nin c.K) ha hb hm

/-! ### dicts -/
theorem kV_key {Mv : Addr → Prop} {H : Hp} {x : V} {y : D} {kk : Key} (r : Rep E Mv H x y) (e : dkey y = some (.inl kk)) : x = kV kk := by
  cases r with
  | int i => simp only [dkey, Option.some.injEq, Sum.inl.injEq] at e; subst e; rfl
  | str i => simp only [dkey, Option.some.injEq, Sum.inl.injEq] at e; subst e; rfl
  | tup h r =>
    simp only [dkey, Option.map_eq_some_iff] at e
    obtain ⟨_, _, e⟩ := e
    cases e
  | _ => simp only [dkey] at e; cases e
theorem keys_of {Mv : Addr → Prop} {H : Hp} : ∀ {l : List D} {vs : List V} {ks : List Key}, RepA E Mv H vs l → l.mapM keyK = some ks → vs = ks.map kV
  | [], _, _, .nil, e => by simp at e; subst e; rfl
  | d :: l, _, ks, .cons r t, e => by
    simp only [List.mapM_cons, Option.pure_def, Option.bind_eq_bind, Option.bind_eq_some_iff, Option.some.injEq] at e
    obtain ⟨z, e1, zs, e2, rfl⟩ := e
    rw [List.map_cons, keys_of t e2]
    congr 1
    cases r with
    | int i => simp only [keyK, Option.some.injEq] at e1; subst e1; rfl
    | str i => simp only [keyK, Option.some.injEq] at e1; subst e1; rfl
    | _ => simp only [keyK] at e1; cases e1
theorem tup_key {Mv : Addr → Prop} {H : Hp} {x : V} {y : D} {kk : List Key} (r : Rep E Mv H x y) (e : dkey y = some (.inr kk)) : ∃ b, x = .ref b ∧ H b = some (.tup (kk.map kV)) := by
  cases r with
  | int i => simp only [dkey, Option.some.injEq] at e; cases e
  | str i => simp only [dkey, Option.some.injEq] at e; cases e
  | tup h r =>
    simp only [dkey, Option.map_eq_some_iff] at e
    obtain ⟨zs, e1, e⟩ := e
    cases e
    rw [keys_of r e1] at h
    exact ⟨_, rfl, h⟩
  | _ => simp only [dkey] at e; cases e
theorem dkey_keyD (kk : Key) : dkey (keyD kk) = some (.inl kk) := by cases kk <;> rfl
theorem mapM_keyD : ∀ ks : List Key, (ks.map keyD).mapM keyK = some ks
  | [] => rfl
  | kk :: ks => by
    have e : keyK (keyD kk) = some kk := by cases kk <;> rfl
    simp [List.mapM_cons, e, mapM_keyD ks]
theorem dkey_tupD (ks : List Key) : dkey (tupD ks) = some (.inr ks) := by
  show ((ks.map keyD).mapM keyK).map Sum.inr = _
  rw [mapM_keyD]
  rfl
/-- what is found, by both readings -/
theorem find_rel {Mv : Addr → Prop} {H : Hp} {κ : Type} [DecidableEq κ] {f : κ → D} {g : κ → DK} (hg : ∀ x, dkey (f x) = some (g x)) (gi : ∀ x y, g x = g y → x = y) {kk : κ} :
    ∀ {ks : List (κ × V)} {l : List (D × D)}, ks.map (fun p => f p.1) = l.map (·.1) → RepA E Mv H (ks.map (·.2)) (l.map (·.2)) →
      (valV ks kk = none ∧ findD l (g kk) = none) ∨ ∃ v d, valV ks kk = some v ∧ findD l (g kk) = some d ∧ Rep E Mv H v d
  | [], [], _, _ => .inl ⟨rfl, rfl⟩
  | [], _ :: _, e, _ => by simp at e
  | _ :: _, [], e, _ => by simp at e
  | (a, v) :: ks, (b, d) :: l, e, r => by
    simp only [List.map_cons, List.cons.injEq] at e r
    obtain ⟨e1, e2⟩ := e
    cases r with
    | cons r1 r2 =>
      have ih := find_rel (f := f) hg gi (kk := kk) e2 r2
      subst e1
      by_cases q : a = kk
      · subst q
        refine .inr ⟨v, d, valV_pos rfl, ?_, r1⟩
        simp [findD, List.find?_cons, hg]
      · have q1 : valV ((a, v) :: ks) kk = valV ks kk := by simp [valV, List.find?_cons, q]
        have q2 : findD ((f a, d) :: l) (g kk) = findD l (g kk) := by
          have : ¬ (g a = g kk) := fun z => q (gi _ _ z)
          simp [findD, List.find?_cons, hg, this]
        rw [q1, q2]
        exact ih
theorem dic_get {M0 : Addr → Prop} {A : Nat → Option Addr} {H : Hp} {x y : V} {d b : D} {o : Option D} (rd : RepL E M0 A H .sh x d) (rb : RepL E M0 A H .sh y b) (h : lookD d b = some o) :
    ∃ a r, x = .ref a ∧ IsD H a ∧ DGet H a y r ∧ ((r = none ∧ o = none) ∨ ∃ v z, r = some v ∧ o = some z ∧ Rep E (Own M0 A) H v z) := by
  unfold lookD at h
  split at h
  · rename_i l kk e
    cases h
    obtain ⟨a, rfl, h1⟩ := sh_dic rd
    cases h1 with
    | k h1 h2 h3 =>
      have ky : y = kV kk := by
        rcases rb with rb | ⟨_, _, _, _, _, _, rfl, _⟩ | ⟨_, _, _, _, _, _, rfl, _⟩
        · exact kV_key rb e
        · cases e
        · cases e
      subst ky
      refine ⟨a, _, rfl, .inl ⟨_, .inl h1⟩, DGet.k h1, ?_⟩
      exact find_rel (f := keyD) (g := Sum.inl) dkey_keyD (fun _ _ => Sum.inl.inj) h2 h3
  · rename_i l kk e
    cases h
    obtain ⟨a, rfl, h1⟩ := sh_dic rd
    cases h1 with
    | t h1 h2 h3 =>
      have ky : ∃ b, y = .ref b ∧ H b = some (.tup (kk.map kV)) := by
        rcases rb with rb | ⟨_, _, _, _, _, _, rfl, _⟩ | ⟨_, _, _, _, _, _, rfl, _⟩
        · exact tup_key rb e
        · cases e
        · cases e
      obtain ⟨b', rfl, hb⟩ := ky
      refine ⟨a, _, rfl, .inr ⟨_, .inl h1⟩, DGet.t h1 hb, ?_⟩
      exact find_rel (f := tupD) (g := Sum.inr) dkey_tupD (fun _ _ => Sum.inr.inj) h2 h3
  · cases h
theorem x_dic (c : Ctx X E W k) (ha : CE X E W .sh e1 m1) (hb : CE X E W .sh e2 m2) (hs : NoSl e2 := by exact fun _ _ => rfl) : CE X E W lv (.Subscript e1 e2 pos) (fun ρ => m1 ρ >>= fun a => m2 ρ >>= fun b => subDic a b) := by
  refine CE.any ?_
  obtain ⟨ta, pa, k1⟩ := ha
  obtain ⟨tb, pb, k2⟩ := hb
  refine ⟨_, pe_dget c.u1 pa pb hs, fun σ H ρ s M0 A Q R dl h => ?_⟩
  refine k1 σ H ρ s M0 A _ R dl (h.bind.mono fun a s1 H1 _ x1 d1 h v1 r1 => ?_)
  have R1 := R.ext x1 d1
  refine k2 σ H1 ρ s1 M0 A _ R1 d1 (h.bind.mono fun b s2 H2 _ x2 d2 h v2 r2 => ?_)
  obtain ⟨z, e, h⟩ := h.lift
  rw [Option.bind_eq_some_iff] at e
  obtain ⟨o, e, e'⟩ := e
  have e' : o = some z := e'
  subst e'
  obtain ⟨p, r, rfl, _, g, q⟩ := dic_get (r1.ext R1 x2) r2 e
  rcases q with ⟨_, q⟩ | ⟨v, z', rfl, q, rv⟩
  · cases q
  · cases q
    exact ⟨p, v, rfl, g, h _ Ext.refl d2 v rv⟩
theorem c_get {apos cpos : Pos} (c : Ctx X E W k) (ha : CE X E W .sh e1 m1) (hb : CE X E W .sh e2 m2) (hc : CE X E W .full e3 m3) (m : M2 X e1 "get" apos e2 e3 cpos := by exact ⟨rfl, rfl, rfl, rfl⟩) :
    CE X E W lv (.Call (.Attribute e1 "get" apos) [e2, e3] [] cpos) (fun ρ => m1 ρ >>= fun a => lift (isDicO a) >>= fun _ => m2 ρ >>= fun b => m3 ρ >>= fun z => getDic a b z) := by
  refine CE.any ?_
  obtain ⟨ta, pa, k1⟩ := ha
  obtain ⟨tb, pb, k2⟩ := hb
  obtain ⟨tc, pc, k3⟩ := hc
  refine ⟨_, pe_dget2 c.u1 pa pb pc m, fun σ H ρ s M0 A Q R dl h => ?_⟩
  refine k1 σ H ρ s M0 A _ R dl (h.bind.mono fun a s1 H1 _ x1 d1 h v1 r1 => ?_)
  have R1 := R.ext x1 d1
  obtain ⟨_, e, h⟩ := h.bind.lift
  have h := h H1 Ext.refl d1
  have isd : ∃ t l, a = .dic t l := by
    cases a with
    | dic t l => exact ⟨t, l, rfl⟩
    | _ => cases e
  obtain ⟨t, l, rfl⟩ := isd
  obtain ⟨p, rfl, hd⟩ := sh_dic r1
  refine ⟨p, rfl, ?_, ?_⟩
  · cases hd with
    | k h1 _ _ => exact .inl ⟨_, .inl h1⟩
    | t h1 _ _ => exact .inr ⟨_, .inl h1⟩
  refine k2 σ H1 ρ s1 M0 A _ R1 d1 (h.bind.mono fun b s2 H2 _ x2 d2 h v2 r2 => ?_)
  have R2 := R1.ext x2 d2
  refine k3 σ H2 ρ s2 M0 A _ R2 d2 (h.bind.mono fun z s3 H3 _ x3 d3 h v3 r3 => ?_)
  obtain ⟨z', e, h⟩ := h.lift
  rw [Option.map_eq_some_iff] at e
  obtain ⟨o, e, rfl⟩ := e
  obtain ⟨p', r, e', _, g, q⟩ := dic_get ((r1.ext R1 x2).ext R2 x3) (r2.ext R2 x3) e
  cases e'
  rcases q with ⟨rfl, rfl⟩ | ⟨v, z', rfl, rfl, rv⟩
  · exact ⟨_, g, h _ Ext.refl d3 _ r3⟩
  · exact ⟨_, g, h _ Ext.refl d3 v rv⟩
end
end PL
end
section
set_option Elab.async false
set_option linter.all false
set_option maxRecDepth 100000
/-! PL5: built-ins called, attributes; statements, targets. -/
namespace PL
open PySem PySem.Spec L2

section
variable {X : Cx} {E : Ev} {W : XK} {lv : Lv} {k : Nat} {e e1 e2 e3 : Expr} {es : List Expr} {m1 m2 m3 : PEnv → M D} {n : PEnv → M (List D)} {pos p : Pos} {x : Str}

/-! ### built-ins -/
def CallD (E : Ev) (W : XK) (r : List V → Hp → VK → Prop) (f : List D → M D) : Prop := ∀ (σ : L2.St) (H : Hp) (ρ : PEnv) (s : Dl) (M0 : Addr → Prop) (A : Nat → Option Addr) (Q : VK) (xs : List V) (ds : List D), ER E M0 A H σ ρ → DealAt E H s → Paired (RepL E M0 A H .sh) xs ds →
  Fin E W H (f ds s) (fun d _ H' => ∀ v, Rep E (Own M0 A) H' v d → Q v H') → r xs H Q
def CallF (E : Ev) (W : XK) (r : List V → Hp → VK → Prop) (f : List D → M (List D)) : Prop := ∀ (σ : L2.St) (H : Hp) (ρ : PEnv) (s : Dl) (M0 : Addr → Prop) (A : Nat → Option Addr) (Q : VK) (xs : List V) (ds : List D), ER E M0 A H σ ρ → DealAt E H s → Paired (RepL E M0 A H .sh) xs ds →
  Fin E W H (f ds s) (fun l _ H' => ∀ a vs, H a = none → H' a = some (.lst vs) → RepA E (fun b => Own M0 A b ∨ b = a) H' vs l → Q (.ref a) H') → r xs H Q
theorem c_callB {id : String} {r : List V → Hp → VK → Prop} {f : List D → M D} (hc : CallR X (.builtin id) r) (hf : CallD E W r f) (hm : X.mg x = none) (hv : bootBuiltins x = some (.builtin id)) (ha : CA X E W .sh (e :: es) n) (hg : Gl X x := by rfl) (hn : x ≠ "__name__" := by decide)
    (hdb : (x == ("__debug__" : Str)) = false := by decide) (he : starEach (e :: es) X.env = (false, eval e X.env) :: starEach es X.env := by rfl) (hpl : (backTo pos (starEach es X.env)).any (·.1) = false := by rfl) : CE X E W lv (.Call (.Name x p) (e :: es) [] pos) (fun ρ => n ρ >>= f) := by
  refine CE.any ?_
  obtain ⟨t, pp, k⟩ := ha
  refine ⟨_, pe_callB hc hg hm hv pp hn hdb he hpl, fun σ H ρ s M0 A Q R dl h => ?_⟩
  refine k σ H ρ s M0 A _ R dl (h.bind.mono fun ds s1 H1 _ x1 d1 h vs rs => ?_)
  exact hf σ H1 ρ s1 M0 A Q vs ds (R.ext x1 d1) d1 rs h
theorem c_callTy {id : String} {r : List V → Hp → VK → Prop} {f : List D → M D} (hc : CallR X (.type id) r) (hf : CallD E W r f) (hm : X.mg x = none) (hv : bootBuiltins x = some (.type id)) (ha : CA X E W .sh (e :: es) n) (hg : Gl X x := by rfl) (hn : x ≠ "__name__" := by decide)
    (hdb : (x == ("__debug__" : Str)) = false := by decide) (he : starEach (e :: es) X.env = (false, eval e X.env) :: starEach es X.env := by rfl) (hpl : (backTo pos (starEach es X.env)).any (·.1) = false := by rfl) : CE X E W lv (.Call (.Name x p) (e :: es) [] pos) (fun ρ => n ρ >>= f) := by
  refine CE.any ?_
  obtain ⟨t, pp, k⟩ := ha
  refine ⟨_, pe_callTy hc hg hm hv pp hn hdb he hpl, fun σ H ρ s M0 A Q R dl h => ?_⟩
  refine k σ H ρ s M0 A _ R dl (h.bind.mono fun ds s1 H1 _ x1 d1 h vs rs => ?_)
  exact hf σ H1 ρ s1 M0 A Q vs ds (R.ext x1 d1) d1 rs h
theorem f_callB {id : String} {r : List V → Hp → VK → Prop} {f : List D → M (List D)} (hc : CallR X (.builtin id) r) (hf : CallF E W r f) (hm : X.mg x = none) (hv : bootBuiltins x = some (.builtin id)) (ha : CA X E W .sh (e :: es) n) (hg : Gl X x := by rfl) (hn : x ≠ "__name__" := by decide)
    (hdb : (x == ("__debug__" : Str)) = false := by decide) (he : starEach (e :: es) X.env = (false, eval e X.env) :: starEach es X.env := by rfl) (hpl : (backTo pos (starEach es X.env)).any (·.1) = false := by rfl) : CF X E W (.Call (.Name x p) (e :: es) [] pos) (fun ρ => n ρ >>= f) := by
  obtain ⟨t, pp, k⟩ := ha
  refine ⟨_, pe_callB hc hg hm hv pp hn hdb he hpl, fun σ H ρ s M0 A Q R dl h => ?_⟩
  refine k σ H ρ s M0 A _ R dl (h.bind.mono fun ds s1 H1 _ x1 d1 h vs rs => ?_)
  exact hf σ H1 ρ s1 M0 A Q vs ds (R.ext x1 d1) d1 rs (h.mono fun l s2 H2 _ x2 d2 q a us a0 => q a us (was_free x1 d1 a0))
theorem f_callTy {id : String} {r : List V → Hp → VK → Prop} {f : List D → M (List D)} (hc : CallR X (.type id) r) (hf : CallF E W r f) (hm : X.mg x = none) (hv : bootBuiltins x = some (.type id)) (ha : CA X E W .sh (e :: es) n) (hg : Gl X x := by rfl) (hn : x ≠ "__name__" := by decide)
    (hdb : (x == ("__debug__" : Str)) = false := by decide) (he : starEach (e :: es) X.env = (false, eval e X.env) :: starEach es X.env := by rfl) (hpl : (backTo pos (starEach es X.env)).any (·.1) = false := by rfl) : CF X E W (.Call (.Name x p) (e :: es) [] pos) (fun ρ => n ρ >>= f) := by
  obtain ⟨t, pp, k⟩ := ha
  refine ⟨_, pe_callTy hc hg hm hv pp hn hdb he hpl, fun σ H ρ s M0 A Q R dl h => ?_⟩
  refine k σ H ρ s M0 A _ R dl (h.bind.mono fun ds s1 H1 _ x1 d1 h vs rs => ?_)
  exact hf σ H1 ρ s1 M0 A Q vs ds (R.ext x1 d1) d1 rs (h.mono fun l s2 H2 _ x2 d2 q a us a0 => q a us (was_free x1 d1 a0))

/-- the one argument -/
def arg1 (f : D → M D) : List D → M D
  | [d] => f d
  | _ => fail
def arg2 (f : D → D → M D) : List D → M D
  | [d, e] => f d e
  | _ => fail
def arg1F (f : D → M (List D)) : List D → M (List D)
  | [d] => f d
  | _ => fail
theorem CallD.one {r : List V → Hp → VK → Prop} {f : D → M D} (h : ∀ (σ : L2.St) (H : Hp) (ρ : PEnv) (s : Dl) (M0 : Addr → Prop) (A : Nat → Option Addr) (Q : VK) (v : V) (d : D), ER E M0 A H σ ρ → DealAt E H s → RepL E M0 A H .sh v d →
    Fin E W H (f d s) (fun d _ H' => ∀ v, Rep E (Own M0 A) H' v d → Q v H') → r [v] H Q) : CallD E W r (arg1 f) := by
  intro σ H ρ s M0 A Q xs ds R dl rs h'
  cases rs with
  | nil => exact h'.elim
  | cons r1 t =>
    cases t with
    | nil => exact h σ H ρ s M0 A Q _ _ R dl r1 h'
    | cons _ _ => exact h'.elim
theorem CallD.two {r : List V → Hp → VK → Prop} {f : D → D → M D} (h : ∀ (σ : L2.St) (H : Hp) (ρ : PEnv) (s : Dl) (M0 : Addr → Prop) (A : Nat → Option Addr) (Q : VK) (v w : V) (d z : D), ER E M0 A H σ ρ → DealAt E H s → RepL E M0 A H .sh v d → RepL E M0 A H .sh w z →
    Fin E W H (f d z s) (fun d _ H' => ∀ v, Rep E (Own M0 A) H' v d → Q v H') → r [v, w] H Q) : CallD E W r (arg2 f) := by
  intro σ H ρ s M0 A Q xs ds R dl rs h'
  cases rs with
  | nil => exact h'.elim
  | cons r1 t =>
    cases t with
    | nil => exact h'.elim
    | cons r2 t =>
      cases t with
      | nil => exact h σ H ρ s M0 A Q _ _ _ _ R dl r1 r2 h'
      | cons _ _ => exact h'.elim
theorem CallF.one {r : List V → Hp → VK → Prop} {f : D → M (List D)} (h : ∀ (σ : L2.St) (H : Hp) (ρ : PEnv) (s : Dl) (M0 : Addr → Prop) (A : Nat → Option Addr) (Q : VK) (v : V) (d : D), ER E M0 A H σ ρ → DealAt E H s → RepL E M0 A H .sh v d →
    Fin E W H (f d s) (fun l _ H' => ∀ a vs, H a = none → H' a = some (.lst vs) → RepA E (fun b => Own M0 A b ∨ b = a) H' vs l → Q (.ref a) H') → r [v] H Q) : CallF E W r (arg1F f) := by
  intro σ H ρ s M0 A Q xs ds R dl rs h'
  cases rs with
  | nil => exact h'.elim
  | cons r1 t =>
    cases t with
    | nil => exact h σ H ρ s M0 A Q _ _ R dl r1 h'
    | cons _ _ => exact h'.elim

def absO : D → Option D
  | .int i => some (.int (if i < 0 then -i else i))
  | _ => none
def maxO : D → D → Option D
  | .int i, .int j => some (.int (if j > i then j else i))
  | _, _ => none
def minO : D → D → Option D
  | .int i, .int j => some (.int (if j < i then j else i))
  | _, _ => none
def intO : D → Option D
  | .int i => some (.int i)
  | .bl b => some (.int (if b then 1 else 0))
  | _ => none
def gcdO : D → D → Option D
  | .int i, .int j => some (.int ((Nat.gcd i.natAbs j.natAbs : Nat) : Int))
  | _, _ => none
def tupleO : D → Option D
  | .lst l => some (.tup false l)
  | .tup k l => some (.tup k l)
  | _ => none
def listO : D → Option (List D)
  | .lst l => some l
  | .tup _ l => some l
  | _ => none
theorem k_len (hK : E.K = X.K) : CallD E W (fun xs H Q => ∃ x n, xs = [x] ∧ LenV X.K x H n ∧ Q (.int n) H) (arg1 lenD) := by
  refine .one fun σ H ρ s M0 A Q v d R dl r h => ?_
  obtain ⟨z, e, g⟩ := h.lift
  have g := g H Ext.refl dl
  rw [← hK]
  cases d with
  | lst l =>
    cases e
    obtain ⟨a, vs, rfl, h1, r1⟩ := sh_lst r
    exact ⟨_, l.length, rfl, .inl ⟨vs, SqL.of h1, r1.length.symm⟩, g _ (.int _)⟩
  | tup kk l =>
    cases e
    obtain ⟨a, vs, rfl, h1, r1⟩ := sh_tup r
    exact ⟨_, l.length, rfl, .inr ⟨vs, h1, r1.length.symm⟩, g _ (.int _)⟩
  | str z =>
    obtain rfl := r.str
    have e : (if z.length ≤ sizeLine then some (D.int z.length) else none) = some _ := e
    split at e
    · rename_i hz
      cases e
      exact ⟨_, _, rfl, ⟨hz, rfl⟩, g _ (.int _)⟩
    · cases e
  | _ => cases e
theorem k_abs : CallD E W (fun xs H Q => ∃ i, xs = [.int i] ∧ Q (.int (if i < 0 then -i else i)) H) (arg1 fun d => lift (absO d)) := by
  refine .one fun σ H ρ s M0 A Q v d R dl r h => ?_
  obtain ⟨z, e, g⟩ := h.lift
  have g := g H Ext.refl dl
  cases d with
  | int i =>
    cases e
    obtain rfl := r.int
    exact ⟨_, rfl, g _ (.int _)⟩
  | _ => cases e
theorem k_int : CallD E W (fun xs H Q => (∃ i, xs = [.int i] ∧ Q (.int i) H) ∨ ∃ k, xs = [.bl k] ∧ Q (.int (if k then 1 else 0)) H) (arg1 fun d => lift (intO d)) := by
  refine .one fun σ H ρ s M0 A Q v d R dl r h => ?_
  obtain ⟨z, e, g⟩ := h.lift
  have g := g H Ext.refl dl
  cases d with
  | int i =>
    cases e
    obtain rfl := r.int
    exact .inl ⟨_, rfl, g _ (.int _)⟩
  | bl b =>
    cases e
    obtain rfl := r.bl
    exact .inr ⟨_, rfl, g _ (.int _)⟩
  | _ => cases e
theorem k_max2 : CallD E W (fun xs H Q => ∃ i j, xs = [.int i, .int j] ∧ Q (.int (if j > i then j else i)) H) (arg2 fun a b => lift (maxO a b)) := by
  refine .two fun σ H ρ s M0 A Q v w d z R dl r r2 h => ?_
  obtain ⟨o, e, g⟩ := h.lift
  have g := g H Ext.refl dl
  unfold maxO at e
  split at e
  · cases e
    obtain rfl := r.int
    obtain rfl := r2.int
    exact ⟨_, _, rfl, g _ (.int _)⟩
  · cases e
theorem k_min2 : CallD E W (fun xs H Q => ∃ i j, xs = [.int i, .int j] ∧ Q (.int (if j < i then j else i)) H) (arg2 fun a b => lift (minO a b)) := by
  refine .two fun σ H ρ s M0 A Q v w d z R dl r r2 h => ?_
  obtain ⟨o, e, g⟩ := h.lift
  have g := g H Ext.refl dl
  unfold minO at e
  split at e
  · cases e
    obtain rfl := r.int
    obtain rfl := r2.int
    exact ⟨_, _, rfl, g _ (.int _)⟩
  · cases e
theorem k_gcd : CallD E W rGcd (arg2 fun a b => lift (gcdO a b)) := by
  refine .two fun σ H ρ s M0 A Q v w d z R dl r r2 h => ?_
  obtain ⟨o, e, g⟩ := h.lift
  have g := g H Ext.refl dl
  unfold gcdO at e
  split at e
  · cases e
    obtain rfl := r.int
    obtain rfl := r2.int
    exact ⟨_, _, rfl, g _ (.int _)⟩
  · cases e
theorem k_tuple (hK : E.K = X.K) : CallD E W (fun xs H Q => ∃ p ys, xs = [.ref p] ∧ ((SqL X.K H p ys ∧ ∀ l, H l = none → Q (.ref l) (upd H l (.tup ys))) ∨ (SqT X.K H p ys ∧ Q (.ref p) H))) (arg1 fun d => lift (tupleO d)) := by
  refine .one fun σ H ρ s M0 A Q v d R dl r h => ?_
  obtain ⟨z, e, g⟩ := h.lift
  rw [← hK]
  cases d with
  | lst l =>
    cases e
    obtain ⟨a, vs, rfl, h1, r1⟩ := sh_lst r
    exact ⟨a, vs, rfl, .inl ⟨SqL.of h1, fun q hq => g _ (Ext.laid hq) (dl.laid hq) _ (new_tup r1 R.mok hq)⟩⟩
  | tup kk l =>
    cases e
    have tr := sh_tupR r
    obtain ⟨a, vs, rfl, h1, r1⟩ := sh_tup r
    exact ⟨a, vs, rfl, .inr ⟨h1, g _ Ext.refl dl _ tr⟩⟩
  | _ => cases e
theorem k_list (hK : E.K = X.K) : CallF E W (fun xs H Q => ∃ p ys, xs = [.ref p] ∧ (SqL X.K H p ys ∨ SqT X.K H p ys) ∧ ∀ l, H l = none → Q (.ref l) (upd H l (.lst ys))) (arg1F fun d => lift (listO d)) := by
  refine .one fun σ H ρ s M0 A Q v d R dl r h => ?_
  obtain ⟨z, e, g⟩ := h.lift
  rw [← hK]
  cases d with
  | lst l =>
    cases e
    obtain ⟨a, vs, rfl, h1, r1⟩ := sh_lst r
    exact ⟨a, vs, rfl, .inl (SqL.of h1), fun q hq => g _ (Ext.laid hq) (dl.laid hq) q vs hq upd_same (r1.laidN hq)⟩
  | tup kk l =>
    cases e
    obtain ⟨a, vs, rfl, h1, r1⟩ := sh_tup r
    exact ⟨a, vs, rfl, .inr h1, fun q hq => g _ (Ext.laid hq) (dl.laid hq) q vs hq upd_same (r1.laidN hq)⟩
  | _ => cases e
theorem g_len (c : Ctx X E W k) (hm : X.mg "len" = none) (ha : CE X E W .sh e1 m1) (hg : Gl X "len" := by rfl) (he : starEach [e1] X.env = (false, eval e1 X.env) :: starEach [] X.env := by rfl) : CE X E W lv (.Call (.Name "len" p) [e1] [] pos) (fun ρ => (m1 ρ >>= fun d => pure [] >>= fun l => pure (d :: l)) >>= arg1 lenD) :=
  c_callB call_len (k_len c.K) hm PySem.boot_len (a_cons ha a_nil he) hg (by decide) (by decide) he rfl
theorem g_abs (hm : X.mg "abs" = none) (ha : CE X E W .sh e1 m1) (hg : Gl X "abs" := by rfl) (he : starEach [e1] X.env = (false, eval e1 X.env) :: starEach [] X.env := by rfl) : CE X E W lv (.Call (.Name "abs" p) [e1] [] pos) (fun ρ => (m1 ρ >>= fun d => pure [] >>= fun l => pure (d :: l)) >>= arg1 fun d => lift (absO d)) :=
  c_callB call_abs k_abs hm (by decide +kernel) (a_cons ha a_nil he) hg (by decide) (by decide) he rfl
theorem g_int (hm : X.mg "int" = none) (ha : CE X E W .sh e1 m1) (hg : Gl X "int" := by rfl) (he : starEach [e1] X.env = (false, eval e1 X.env) :: starEach [] X.env := by rfl) : CE X E W lv (.Call (.Name "int" p) [e1] [] pos) (fun ρ => (m1 ρ >>= fun d => pure [] >>= fun l => pure (d :: l)) >>= arg1 fun d => lift (intO d)) :=
  c_callTy call_int1 k_int hm (by decide +kernel) (a_cons ha a_nil he) hg (by decide) (by decide) he rfl
theorem g_tuple (c : Ctx X E W k) (hm : X.mg "tuple" = none) (ha : CE X E W .sh e1 m1) (hg : Gl X "tuple" := by rfl) (he : starEach [e1] X.env = (false, eval e1 X.env) :: starEach [] X.env := by rfl) : CE X E W lv (.Call (.Name "tuple" p) [e1] [] pos) (fun ρ => (m1 ρ >>= fun d => pure [] >>= fun l => pure (d :: l)) >>= arg1 fun d => lift (tupleO d)) :=
  c_callTy call_tuple_of (k_tuple c.K) hm (by decide +kernel) (a_cons ha a_nil he) hg (by decide) (by decide) he rfl
theorem g_list (c : Ctx X E W k) (hm : X.mg "list" = none) (ha : CE X E W .sh e1 m1) (hg : Gl X "list" := by rfl) (he : starEach [e1] X.env = (false, eval e1 X.env) :: starEach [] X.env := by rfl) : CF X E W (.Call (.Name "list" p) [e1] [] pos) (fun ρ => (m1 ρ >>= fun d => pure [] >>= fun l => pure (d :: l)) >>= arg1F fun d => lift (listO d)) :=
  f_callTy call_list_of (k_list c.K) hm (by decide +kernel) (a_cons ha a_nil he) hg (by decide) (by decide) he rfl
theorem g_max2 (c : Ctx X E W k) (hm : X.mg "max" = none) (ha : CE X E W .sh e1 m1) (hb : CE X E W .sh e2 m2) (hg : Gl X "max" := by rfl) (he : starEach [e1, e2] X.env = (false, eval e1 X.env) :: starEach [e2] X.env := by rfl) (he2 : starEach [e2] X.env = (false, eval e2 X.env) :: starEach [] X.env := by rfl)
    (hpl : (backTo pos (starEach [e2] X.env)).any (·.1) = false := by rfl) : CE X E W lv (.Call (.Name "max" p) [e1, e2] [] pos) (fun ρ => (m1 ρ >>= fun d => (m2 ρ >>= fun d => pure [] >>= fun l => pure (d :: l)) >>= fun l => pure (d :: l)) >>= arg2 fun a b => lift (maxO a b)) :=
  c_callB (call_max2 c.calm) k_max2 hm (by decide +kernel) (a_cons ha (a_cons hb a_nil he2) he) hg (by decide) (by decide) he hpl
theorem g_min2 (c : Ctx X E W k) (hm : X.mg "min" = none) (ha : CE X E W .sh e1 m1) (hb : CE X E W .sh e2 m2) (hg : Gl X "min" := by rfl) (he : starEach [e1, e2] X.env = (false, eval e1 X.env) :: starEach [e2] X.env := by rfl) (he2 : starEach [e2] X.env = (false, eval e2 X.env) :: starEach [] X.env := by rfl)
    (hpl : (backTo pos (starEach [e2] X.env)).any (·.1) = false := by rfl) : CE X E W lv (.Call (.Name "min" p) [e1, e2] [] pos) (fun ρ => (m1 ρ >>= fun d => (m2 ρ >>= fun d => pure [] >>= fun l => pure (d :: l)) >>= fun l => pure (d :: l)) >>= arg2 fun a b => lift (minO a b)) :=
  c_callB (call_min2 c.calm) k_min2 hm (by decide +kernel) (a_cons ha (a_cons hb a_nil he2) he) hg (by decide) (by decide) he hpl
theorem g_gcd (hm : X.mg "gcd" = some (.builtin "math.gcd")) (ha : CE X E W .sh e1 m1) (hb : CE X E W .sh e2 m2) (hg : Gl X "gcd" := by rfl) (he : starEach [e1, e2] X.env = (false, eval e1 X.env) :: starEach [e2] X.env := by rfl) (he2 : starEach [e2] X.env = (false, eval e2 X.env) :: starEach [] X.env := by rfl)
    (hpl : (backTo pos (starEach [e2] X.env)).any (·.1) = false := by rfl) : CE X E W lv (.Call (.Name "gcd" p) [e1, e2] [] pos) (fun ρ => (m1 ρ >>= fun d => (m2 ρ >>= fun d => pure [] >>= fun l => pure (d :: l)) >>= fun l => pure (d :: l)) >>= arg2 fun a b => lift (gcdO a b)) := by
  refine CE.any ?_
  obtain ⟨t, pp, k⟩ := a_cons ha (a_cons hb a_nil he2) he
  refine ⟨_, pe_callBfun cr_gcd hg hm pp (by decide) he hpl, fun σ H ρ s M0 A Q R dl h => ?_⟩
  refine k σ H ρ s M0 A _ R dl (h.bind.mono fun ds s1 H1 _ x1 d1 h vs rs => ?_)
  exact k_gcd σ H1 ρ s1 M0 A Q vs ds (R.ext x1 d1) d1 rs h

/-! ### attributes -/
def fldO (f : Str) : D → Option D
  | .ins _ fs => fs.lookup f
  | _ => none
theorem ins_look {Mv : Addr → Prop} {H : Hp} {f : Str} : ∀ {fvs : List (Str × V)} {fs : List (Str × D)} {d : D}, fvs.map (·.1) = fs.map (·.1) → RepA E Mv H (fvs.map (·.2)) (fs.map (·.2)) → fs.lookup f = some d → ∃ v, fvs.lookup f = some v ∧ Rep E Mv H v d
  | [], [], _, _, _, h => by simp at h
  | [], _ :: _, _, e, _, _ => by simp at e
  | _ :: _, [], _, e, _, _ => by simp at e
  | (g, v) :: fvs, (g', z) :: fs, d, e, r, h => by
    simp only [List.map_cons, List.cons.injEq] at e r
    obtain ⟨rfl, e2⟩ := e
    cases r with
    | cons r1 r2 =>
      rw [List.lookup_cons] at h ⊢
      cases hb : f == g with
      | true =>
        rw [hb] at h
        cases h
        exact ⟨v, rfl, r1⟩
      | false =>
        rw [hb] at h
        exact ins_look e2 r2 h
/-- o.f, for an object of the class cn -/
def fldC (cn f : Str) : D → Option D
  | .ins c fs => if c = cn then fs.lookup f else none
  | _ => none
theorem c_fld {f : Str} (cn : Str) (hc : Cls X.K (E.C cn)) (hn : NoAttr X.K (E.C cn) f) (ha : CE X E W .sh e1 m1) (hb : attributeBase e1 f X.env (eval e1 X.env) = eval e1 X.env := by rfl) :
    CE X E W lv (.Attribute e1 f pos) (fun ρ => m1 ρ >>= fun d => lift (fldC cn f d)) := by
  refine CE.any ?_
  obtain ⟨t, pp, k⟩ := ha
  refine ⟨_, pe_fld pp hb, fun σ H ρ s M0 A Q R dl h => ?_⟩
  refine k σ H ρ s M0 A _ R dl (h.bind.mono fun d s1 H1 _ x1 d1 h v r => ?_)
  obtain ⟨z, e, g⟩ := h.lift
  have g := g H1 Ext.refl d1
  cases d with
  | ins c fs =>
    have e' : (if c = cn then fs.lookup f else none) = some z := e
    clear e
    split at e'
    · rename_i q
      subst q
      rcases r with r | ⟨_, _, _, _, _, _, r, _⟩ | ⟨_, _, _, _, _, _, r, _⟩
      · cases r with
        | ins h1 h2 h3 h4 =>
          obtain ⟨v, e1, rv⟩ := ins_look h3 h4 e'
          exact ⟨_, _, _, _, v, rfl, h1, hc, hn, e1, g v rv⟩
      · cases r
      · cases r
    · cases e'
  | _ => cases e
end
end PL
end
section
set_option Elab.async false
set_option linter.all false
set_option maxRecDepth 100000
/-! PL6: statements. -/
namespace PL
open PySem PySem.Spec L2

inductive Fl where
  | nx | brk | ct | ret (d : D)
/-- what a statement may change: the deal, what the def owns -/
def Chg (E : Ev) (A : Nat → Option Addr) : Addr → Prop := fun a => Dm E a ∨ ∃ i, A i = some a
/-- an owner that is older, or new -/
def Sub (A : Nat → Option Addr) (H : Hp) (A' : Nat → Option Addr) : Prop := ∀ i a, A' i = some a → (∃ j, A j = some a) ∨ H a = none
def SFin (E : Ev) (W : XK) (M0 : Addr → Prop) (A : Nat → Option Addr) (H : Hp) (r : Out (Fl × PEnv)) (D : Ends) : Prop :=
  match r with
  | .ok (.nx, ρ') s' => ∀ σ' H' A', ER E M0 A' H' σ' ρ' → Ext (Chg E A) H H' → Sub A H A' → DealAt E H' s' → D.nx σ' H'
  | .ok (.brk, ρ') s' => ∀ σ' H' A', ER E M0 A' H' σ' ρ' → Ext (Chg E A) H H' → Sub A H A' → DealAt E H' s' → D.bk σ' H'
  | .ok (.ct, ρ') s' => ∀ σ' H' A', ER E M0 A' H' σ' ρ' → Ext (Chg E A) H H' → Sub A H A' → DealAt E H' s' → D.ct σ' H'
  | .ok (.ret d, _) s' => ∀ v H', Ext (Chg E A) H H' → DealAt E H' s' → MOk M0 H' → Rep E M0 H' v d → D.rt v H'
  | .exc c as s' => ∀ H' dct, Ext (Chg E A) H H' → DealAt E H' s' → XAt E H' c as dct → W (.ref (E.C c)) dct H'
  | .bad => False
def CS (X : Cx) (E : Ev) (W : XK) (st : Stmt) (m : PEnv → M (Fl × PEnv)) : Prop :=
  ∃ t : TS, PS X st t ∧ ∀ (σ : L2.St) (H : Hp) (ρ : PEnv) (s : Dl) (M0 : Addr → Prop) (A : Nat → Option Addr) (D : Ends), ER E M0 A H σ ρ → DealAt E H s → SFin E W M0 A H (m ρ s) D → t D σ H
def CB (X : Cx) (E : Ev) (W : XK) (sts : List Stmt) (m : PEnv → M (Fl × PEnv)) : Prop :=
  ∃ t : TS, PSs X sts t ∧ ∀ (σ : L2.St) (H : Hp) (ρ : PEnv) (s : Dl) (M0 : Addr → Prop) (A : Nat → Option Addr) (D : Ends), ER E M0 A H σ ρ → DealAt E H s → SFin E W M0 A H (m ρ s) D → t D σ H
/-- a target -/
def CG (X : Cx) (E : Ev) (tg : Expr) (g : D → PEnv → Option PEnv) : Prop :=
  ∃ t : TG, PG X tg t ∧ ∀ (σ : L2.St) (H : Hp) (ρ ρ' : PEnv) (M0 : Addr → Prop) (A : Nat → Option Addr) (v : V) (d : D) (Q : L2.St → Hp → Prop), ER E M0 A H σ ρ → Rep E (Own M0 A) H v d → g d ρ = some ρ' →
    (∀ σ' A', ER E M0 A' H σ' ρ' → (∀ i a, A' i = some a → A i = some a) → Q σ' H) → t v σ H Q
def CGs (X : Cx) (E : Ev) (ts : List Expr) (g : List D → PEnv → Option PEnv) : Prop :=
  ∃ t : TGs, PGs X ts t ∧ ∀ (σ : L2.St) (H : Hp) (ρ ρ' : PEnv) (M0 : Addr → Prop) (A : Nat → Option Addr) (vs : List V) (ds : List D) (Q : L2.St → Hp → Prop), ER E M0 A H σ ρ → RepA E (Own M0 A) H vs ds → g ds ρ = some ρ' →
    (∀ σ' A', ER E M0 A' H σ' ρ' → (∀ i a, A' i = some a → A i = some a) → Q σ' H) → t vs σ H Q

/-! ### owners -/
def clr (A : Nat → Option Addr) (i : Nat) : Nat → Option Addr := fun j => if j = i then none else A j
def own1 (A : Nat → Option Addr) (i : Nat) (a : Addr) : Nat → Option Addr := fun j => if j = i then some a else A j
theorem clr_some {A : Nat → Option Addr} {i j : Nat} {a : Addr} (h : clr A i j = some a) : A j = some a := by
  unfold clr at h
  split at h
  · cases h
  · exact h
theorem Own.less {M0 : Addr → Prop} {A A' : Nat → Option Addr} (h : ∀ i a, A' i = some a → A i = some a) : ∀ a, Own M0 A' a → Own M0 A a := fun a z => z.imp id fun ⟨i, e⟩ => ⟨i, h i a e⟩
theorem SlotAt.mono {E : Ev} {Mv Mw : Addr → Prop} {H : Hp} {own : Option Addr} {x : Option (Option V)} (k : ∀ a, Mw a → Mv a) : ∀ {s : Slot}, SlotAt E Mv H own x s → SlotAt E Mw H own x s
  | .un, h => h
  | .im d, ⟨h, v, e1, r⟩ => ⟨h, v, e1, r.mono k⟩
  | .mu l, ⟨a, vs, e1, e2, e3, r⟩ => ⟨a, vs, e1, e2, e3, r.mono k⟩
  | .md t l, ⟨a, e1, e2, h⟩ => ⟨a, e1, e2, match h with
    | .k h1 h2 h3 => .k h1 h2 (h3.mono k)
    | .t h1 h2 h3 => .t h1 h2 (h3.mono k)⟩
theorem SlotAt.fresh {E : Ev} {Mv : Addr → Prop} {H : Hp} {own : Option Addr} {x : Option (Option V)} : ∀ {s : Slot}, SlotAt E Mv H own x s → SlotAt E (fun a => Mv a ∨ H a = none) H own x s
  | .un, h => h
  | .im d, ⟨h, v, e1, r⟩ => ⟨h, v, e1, r.fresh⟩
  | .mu l, ⟨a, vs, e1, e2, e3, r⟩ => ⟨a, vs, e1, e2, e3, r.fresh⟩
  | .md t l, ⟨a, e1, e2, h⟩ => ⟨a, e1, e2, match h with
    | .k h1 h2 h3 => .k h1 h2 h3.fresh
    | .t h1 h2 h3 => .t h1 h2 h3.fresh⟩
theorem SlotAt.extS {E : Ev} {Mv Mw : Addr → Prop} {H H' : Hp} {own : Option Addr} {x : Option (Option V)} (e : Ext Mw H H') (m : MOk Mw H) (sub : ∀ a, Mw a → Mv a) (keep : ∀ a, own = some a → H' a = H a) : ∀ {s : Slot}, SlotAt E Mv H own x s → SlotAt E Mv H' own x s
  | .un, h => h
  | .im d, ⟨h, v, e1, r⟩ => ⟨h, v, e1, r.extS e m sub⟩
  | .mu l, ⟨a, vs, e1, e2, e3, r⟩ => ⟨a, vs, e1, e2, (keep a e1).trans e3, r.extS e m sub⟩
  | .md t l, ⟨a, e1, e2, h⟩ => ⟨a, e1, e2, match h with
    | .k h1 h2 h3 => .k ((keep a e1).trans h1) h2 (h3.extS e m sub)
    | .t h1 h2 h3 => .t ((keep a e1).trans h1) h2 (h3.extS e m sub)⟩
section
variable {E : Ev} {M0 : Addr → Prop} {A A' : Nat → Option Addr} {H H' : Hp} {σ : L2.St} {ρ : PEnv} {s : Dl} {i : Nat}
/-- a name is bound to a datum -/
theorem ER.setI (R : ER E M0 A H σ ρ) {v : V} {d : D} (r : Rep E (Own M0 A) H v d) : ER E M0 (clr A i) H (σ.set i (some v)) (ρ.set i (.im d)) := by
  have less : ∀ j a, clr A i j = some a → A j = some a := fun j a h => clr_some h
  refine ⟨R.mp, R.mq, fun j a h => R.own j a (less j a h), fun j l a h1 h2 => R.inj j l a (less j a h1) (less l a h2), fun b m => R.mok b (Own.less less b m), by simp [R.len], fun j x h => ?_⟩
  by_cases e : j = i
  · subst e
    rw [List.getElem?_set] at h
    simp only [if_true] at h
    split at h
    · rename_i hl
      cases h
      refine ⟨by simp [clr], v, ?_, r.mono (Own.less less)⟩
      rw [List.getElem?_set_self (by rw [← R.len]; exact hl)]
    · cases h
  · rw [List.getElem?_set_ne (Ne.symm e)] at h ⊢
    have q : clr A i j = A j := by simp [clr, e]
    rw [q]
    exact (R.at_ j x h).mono (Own.less less)
/-- a name is forgotten -/
theorem ER.setU (R : ER E M0 A H σ ρ) {x : Option V} : ER E M0 (clr A i) H (σ.set i x) (ρ.set i .un) := by
  have less : ∀ j a, clr A i j = some a → A j = some a := fun j a h => clr_some h
  refine ⟨R.mp, R.mq, fun j a h => R.own j a (less j a h), fun j l a h1 h2 => R.inj j l a (less j a h1) (less l a h2), fun b m => R.mok b (Own.less less b m), by simp [R.len], fun j y h => ?_⟩
  by_cases e : j = i
  · subst e
    rw [List.getElem?_set] at h
    simp only [if_true] at h
    split at h
    · cases h
      show clr A j j = none
      simp [clr]
    · cases h
  · rw [List.getElem?_set_ne (Ne.symm e)] at h ⊢
    have q : clr A i j = A j := by simp [clr, e]
    rw [q]
    exact (R.at_ j y h).mono (Own.less less)
theorem own1_cases {A : Nat → Option Addr} {i j : Nat} {a b : Addr} (h : own1 A i a j = some b) : (j = i ∧ b = a) ∨ (j ≠ i ∧ A j = some b) := by
  unfold own1 at h
  split at h
  · rename_i e
    cases h
    exact .inl ⟨e, rfl⟩
  · rename_i e
    exact .inr ⟨e, h⟩
/-- a name is bound to a list just made: known at H, made behind it -/
theorem ER.setM (R : ER E M0 A H σ ρ) (x : Ext (Dm E) H H') (dl : DealAt E H' s) {a : Addr} {vs : List V} {l : List D} (h0 : H a = none) (h1 : H' a = some (.lst vs)) (r : RepA E (fun b => Own M0 A b ∨ b = a) H' vs l) :
    ER E M0 (own1 A i a) H' (σ.set i (some (.ref a))) (ρ.set i (.mu l)) := by
  have R1 := R.ext x dl
  have sub : ∀ b, Own M0 (own1 A i a) b → Own M0 A b ∨ b = a := fun b z => by
    rcases z with z | ⟨j, z⟩
    · exact .inl (.inl z)
    · rcases own1_cases z with ⟨_, e⟩ | ⟨_, e⟩
      · exact .inr e
      · exact .inl (.inr ⟨j, e⟩)
  have na : ¬ Own M0 A a := fun z => R.mok.tr z h0
  refine ⟨R.mp, R.mq, fun j b h => ?_, fun j l b h1 h2 => ?_, fun b m => ?_, by simp [R.len], fun j y h => ?_⟩
  · rcases own1_cases h with ⟨_, e⟩ | ⟨_, e⟩
    · rw [e]; exact fun z => na (.inl z)
    · exact R.own j b e
  · rcases own1_cases h1 with ⟨e1, q1⟩ | ⟨e1, q1⟩ <;> rcases own1_cases h2 with ⟨e2, q2⟩ | ⟨e2, q2⟩
    · rw [e1, e2]
    · exact absurd (.inr ⟨l, by rw [← q1]; exact q2⟩) na
    · exact absurd (.inr ⟨j, by rw [← q2]; exact q1⟩) na
    · exact R.inj j l b q1 q2
  · rcases sub b m with m | e
    · exact R1.mok b m
    · rw [e]; exact ⟨_, h1, trivial⟩
  · by_cases e : j = i
    · subst e
      rw [List.getElem?_set] at h
      simp only [if_true] at h
      split at h
      · rename_i hl
        cases h
        refine ⟨a, vs, by simp [own1], ?_, h1, r.mono sub⟩
        rw [List.getElem?_set_self (by rw [← R.len]; exact hl)]
      · cases h
    · rw [List.getElem?_set_ne (Ne.symm e)] at h ⊢
      have q : own1 A i a j = A j := by simp [own1, e]
      rw [q]
      have f := (R.at_ j y h).fresh.mono (Mw := fun b => Own M0 A b ∨ b = a) fun b z => z.imp id fun e => by rw [e]; exact h0
      have mdm : MOk (Dm E) H := fun b z => R.mok b (R.dm b z)
      refine SlotAt.mono sub (SlotAt.extS x mdm (fun b z => .inl (R.dm b z)) (fun b hb => ?_) f)
      obtain ⟨o, e1, _⟩ := R.mok b (.inr ⟨j, hb⟩)
      rw [e1]
      exact x b o e1 (R.ndm hb)
/-- .. to a dict just made -/
theorem ER.setD (R : ER E M0 A H σ ρ) (x : Ext (Dm E) H H') (dl : DealAt E H' s) {a : Addr} {t : Bool} {l : List (D × D)} (h0 : H a = none) (h1 : DicAt E (fun b => Own M0 A b ∨ b = a) H' a t l) :
    ER E M0 (own1 A i a) H' (σ.set i (some (.ref a))) (ρ.set i (.md t l)) := by
  have R1 := R.ext x dl
  have sub : ∀ b, Own M0 (own1 A i a) b → Own M0 A b ∨ b = a := fun b z => by
    rcases z with z | ⟨j, z⟩
    · exact .inl (.inl z)
    · rcases own1_cases z with ⟨_, e⟩ | ⟨_, e⟩
      · exact .inr e
      · exact .inl (.inr ⟨j, e⟩)
  have na : ¬ Own M0 A a := fun z => R.mok.tr z h0
  refine ⟨R.mp, R.mq, fun j b h => ?_, fun j l b h1 h2 => ?_, fun b m => ?_, by simp [R.len], fun j y h => ?_⟩
  · rcases own1_cases h with ⟨_, e⟩ | ⟨_, e⟩
    · rw [e]; exact fun z => na (.inl z)
    · exact R.own j b e
  · rcases own1_cases h1 with ⟨e1, q1⟩ | ⟨e1, q1⟩ <;> rcases own1_cases h2 with ⟨e2, q2⟩ | ⟨e2, q2⟩
    · rw [e1, e2]
    · exact absurd (.inr ⟨l, by rw [← q1]; exact q2⟩) na
    · exact absurd (.inr ⟨j, by rw [← q2]; exact q1⟩) na
    · exact R.inj j l b q1 q2
  · rcases sub b m with m | e
    · exact R1.mok b m
    · rw [e]
      cases h1 with
      | k e1 _ _ => exact ⟨_, e1, trivial⟩
      | t e1 _ _ => exact ⟨_, e1, trivial⟩
  · by_cases e : j = i
    · subst e
      rw [List.getElem?_set] at h
      simp only [if_true] at h
      split at h
      · rename_i hl
        cases h
        refine ⟨a, by simp [own1], ?_, ?_⟩
        · rw [List.getElem?_set_self (by rw [← R.len]; exact hl)]
        · cases h1 with
          | k e1 e2 e3 => exact .k e1 e2 (e3.mono sub)
          | t e1 e2 e3 => exact .t e1 e2 (e3.mono sub)
      · cases h
    · rw [List.getElem?_set_ne (Ne.symm e)] at h ⊢
      have q : own1 A i a j = A j := by simp [own1, e]
      rw [q]
      have f := (R.at_ j y h).fresh.mono (Mw := fun b => Own M0 A b ∨ b = a) fun b z => z.imp id fun e => by rw [e]; exact h0
      have mdm : MOk (Dm E) H := fun b z => R.mok b (R.dm b z)
      refine SlotAt.mono sub (SlotAt.extS x mdm (fun b z => .inl (R.dm b z)) (fun b hb => ?_) f)
      obtain ⟨o, e1, _⟩ := R.mok b (.inr ⟨j, hb⟩)
      rw [e1]
      exact x b o e1 (R.ndm hb)
/-- an owned object is written: all else stays -/
theorem ER.write (R : ER E M0 A H σ ρ) {a : Addr} {o : HO} {y : Slot} (hi : A i = some a) (w : Wr o) (new : SlotAt E (Own M0 A) (upd H a o) (some a) (σ[i]?) y) : ER E M0 A (upd H a o) σ (ρ.set i y) := by
  have ea : Ext (fun b => b = a) H (upd H a o) := fun b u e n => by rw [upd_ne n]; exact e
  have ma : MOk (fun b => b = a) H := fun b z => by rw [z]; exact R.mok a (.inr ⟨i, hi⟩)
  have sub : ∀ b, b = a → Own M0 A b := fun b z => by rw [z]; exact .inr ⟨i, hi⟩
  refine ⟨R.mp, R.mq, R.own, R.inj, fun b m => ?_, by simp [R.len], fun j z h => ?_⟩
  · by_cases e : b = a
    · rw [e]; exact ⟨o, upd_same, w⟩
    · obtain ⟨u, e1, w1⟩ := R.mok b m
      exact ⟨u, by rw [upd_ne e]; exact e1, w1⟩
  · by_cases e : j = i
    · subst e
      rw [List.getElem?_set] at h
      simp only [if_true] at h
      split at h
      · cases h
        rw [hi]
        exact new
      · cases h
    · rw [List.getElem?_set_ne (Ne.symm e)] at h
      refine SlotAt.extS ea ma sub (fun b hb => ?_) (R.at_ j z h)
      exact upd_ne fun q => e (R.inj j i a (by rw [← q]; exact hb) hi)
theorem Ext.upd_own (hi : A i = some a) {o : HO} : Ext (Chg E A) H (upd H a o) := fun b u e n => by rw [upd_ne fun z => n (.inr ⟨i, by rw [z]; exact hi⟩)]; exact e
theorem DealAt.upd_own (R : ER E M0 A H σ ρ) {a : Addr} (hi : A i = some a) {o : HO} (d : DealAt E H s) : DealAt E (upd H a o) s :=
  ⟨fun o => by rw [upd_ne fun z => R.own i a hi (by rw [← z]; exact R.mp o)]; exact d.p o, fun o => by rw [upd_ne fun z => R.own i a hi (by rw [← z]; exact R.mq o)]; exact d.q o⟩
theorem ER.chg (R : ER E M0 A H σ ρ) : ∀ a, Chg E A a → Own M0 A a := fun a z => z.elim (R.dm a) .inr
theorem Sub.refl : Sub A H A := fun i a h => .inl ⟨i, h⟩
theorem Sub.less (h : ∀ i a, A' i = some a → A i = some a) : Sub A H A' := fun i a z => .inl ⟨i, h i a z⟩
end

/-! ### in a row -/
section
variable {E : Ev} {W : XK} {M0 : Addr → Prop} {A A1 A2 : Nat → Option Addr} {H H1 H2 : Hp} {σ : L2.St} {ρ : PEnv} {s : Dl} {D : Ends}
theorem Ext.chain (x1 : Ext (Chg E A) H H1) (u1 : Sub A H A1) (x2 : Ext (Chg E A1) H1 H2) : Ext (Chg E A) H H2 := fun b o e n => by
  refine x2 b o (x1 b o e n) fun z => ?_
  rcases z with z | ⟨j, z⟩
  · exact n (.inl z)
  · rcases u1 j b z with ⟨l, q⟩ | q
    · exact n (.inr ⟨l, q⟩)
    · rw [q] at e; cases e
theorem Sub.chain (x1 : Ext (Chg E A) H H1) (m1 : MOk (Own M0 A1) H1) (mp : E.on = true → M0 E.p) (mq : E.on = true → M0 E.q) (u1 : Sub A H A1) (u2 : Sub A1 H1 A2) : Sub A H A2 := fun i a h => by
  rcases u2 i a h with ⟨j, q⟩ | q
  · exact u1 j a q
  · cases e : H a with
    | none => exact .inr rfl
    | some o =>
      by_cases n : Chg E A a
      · rcases n with n | ⟨j, n⟩
        · refine absurd q (m1.tr (.inl ?_))
          rcases n with ⟨o, n | n⟩
          · rw [n]; exact mp o
          · rw [n]; exact mq o
        · exact .inl ⟨j, n⟩
      · rw [x1 a o e n] at q; cases q
theorem SFin.base {r : Out (Fl × PEnv)} (h : SFin E W M0 A H r D) (x1 : Ext (Chg E A) H H1) (u1 : Sub A H A1) (m1 : MOk (Own M0 A1) H1) (mp : E.on = true → M0 E.p) (mq : E.on = true → M0 E.q) : SFin E W M0 A1 H1 r D := by
  cases r with
  | ok p s' =>
    obtain ⟨f, ρ'⟩ := p
    cases f with
    | nx => exact fun σ' H' A' R x u d => h σ' H' A' R (x1.chain u1 x) (Sub.chain x1 m1 mp mq u1 u) d
    | brk => exact fun σ' H' A' R x u d => h σ' H' A' R (x1.chain u1 x) (Sub.chain x1 m1 mp mq u1 u) d
    | ct => exact fun σ' H' A' R x u d => h σ' H' A' R (x1.chain u1 x) (Sub.chain x1 m1 mp mq u1 u) d
    | ret z => exact fun v H' x d m r => h v H' (x1.chain u1 x) d m r
  | exc c as s' => exact fun H' dct x d q => h H' dct (x1.chain u1 x) d q
  | bad => exact h
/-- behind an expression -/
theorem SFin.expr {α : Type} {m : M α} {f : α → M (Fl × PEnv)} (R : ER E M0 A H σ ρ) (h : SFin E W M0 A H ((m >>= f) s) D) : Fin E W H (m s) fun a s' H' => SFin E W M0 A H' (f a s') D := by
  rw [bind_run] at h
  cases e : m s with
  | ok a s' =>
    rw [e] at h
    intro H1 x1 d1
    exact SFin.base (r := f a s') h (x1.mono fun _ z => .inl z) Sub.refl (R.ext x1 d1).mok R.mp R.mq
  | exc c l s' =>
    rw [e] at h
    exact fun H' dct x d q => h H' dct (x.mono fun _ z => .inl z) d q
  | bad =>
    rw [e] at h
    exact h
theorem SFin.mono {r : Out (Fl × PEnv)} {D' : Ends} (h : SFin E W M0 A H r D) (k1 : ∀ ρ' s', r = .ok (.nx, ρ') s' → ∀ σ' H' A', ER E M0 A' H' σ' ρ' → Ext (Chg E A) H H' → Sub A H A' → DealAt E H' s' → D.nx σ' H' → D'.nx σ' H')
    (k2 : ∀ σ H, D.bk σ H → D'.bk σ H) (k3 : ∀ σ H, D.ct σ H → D'.ct σ H) (k4 : ∀ v H, D.rt v H → D'.rt v H) : SFin E W M0 A H r D' := by
  cases r with
  | ok p s' =>
    obtain ⟨f, ρ'⟩ := p
    cases f with
    | nx => exact fun σ' H' A' R x u d => k1 ρ' s' rfl σ' H' A' R x u d (h σ' H' A' R x u d)
    | brk => exact fun σ' H' A' R x u d => k2 _ _ (h σ' H' A' R x u d)
    | ct => exact fun σ' H' A' R x u d => k3 _ _ (h σ' H' A' R x u d)
    | ret z => exact fun v H' x d m r => k4 _ _ (h v H' x d m r)
  | exc c as s' => exact h
  | bad => exact h
theorem SFin.nx {ρ' : PEnv} (h : SFin E W M0 A H ((Pure.pure (Fl.nx, ρ') : M (Fl × PEnv)) s) D) : ∀ σ' H' A', ER E M0 A' H' σ' ρ' → Ext (Chg E A) H H' → Sub A H A' → DealAt E H' s → D.nx σ' H' := h
end

section
variable {X : Cx} {E : Ev} {W : XK} {lv : Lv} {k : Nat} {st : Stmt} {rest : List Stmt} {e e1 e2 : Expr} {m1 m2 : PEnv → M D} {pos p : Pos} {x : Str} {n n2 : PEnv → M (Fl × PEnv)}

def seqM (n n2 : PEnv → M (Fl × PEnv)) : PEnv → M (Fl × PEnv) := fun ρ => n ρ >>= fun r => match r.1 with
  | .nx => n2 r.2
  | _ => pure r
theorem s_nil : CB X E W [] (fun ρ => pure (.nx, ρ)) :=
  ⟨_, pss_nil, fun σ H ρ s M0 A D R dl h => h σ H A R Ext.refl Sub.refl dl⟩
theorem s_cons (h1 : CS X E W st n) (h2 : CB X E W rest n2) : CB X E W (st :: rest) (seqM n n2) := by
  obtain ⟨t, p, k1⟩ := h1
  obtain ⟨u, q, k2⟩ := h2
  refine ⟨_, pss_cons p q, fun σ H ρ s M0 A D R dl h => ?_⟩
  refine k1 σ H ρ s M0 A _ R dl ?_
  unfold seqM at h
  rw [bind_run] at h
  cases e : n ρ s with
  | ok r s' =>
    rw [e] at h
    obtain ⟨f, ρ'⟩ := r
    cases f with
    | nx => exact fun σ' H' A' R' x u d => k2 σ' H' ρ' s' M0 A' D R' d (SFin.base h x u R'.mok R'.mp R'.mq)
    | brk => exact h
    | ct => exact h
    | ret z => exact h
  | exc c l s' => rw [e] at h; exact h
  | bad => rw [e] at h; exact h
theorem s_one (h1 : CS X E W st n) : CB X E W [st] n := by
  obtain ⟨t, p, k1⟩ := h1
  exact ⟨_, pss_one p, k1⟩
theorem s_pass : CS X E W (.Pass pos) (fun ρ => pure (.nx, ρ)) := ⟨_, ps_pass, fun σ H ρ s M0 A D R dl h => h σ H A R Ext.refl Sub.refl dl⟩
theorem s_break : CS X E W (.Break pos) (fun ρ => pure (.brk, ρ)) := ⟨_, ps_break, fun σ H ρ s M0 A D R dl h => h σ H A R Ext.refl Sub.refl dl⟩
theorem s_cont : CS X E W (.Continue pos) (fun ρ => pure (.ct, ρ)) := ⟨_, ps_continue, fun σ H ρ s M0 A D R dl h => h σ H A R Ext.refl Sub.refl dl⟩
/-- never reached -/
theorem s_never : CS X E W st (fun _ => fail) := ⟨_, ps_never, fun _ _ _ _ _ _ _ _ _ h => h.elim⟩
theorem s_ret (h : CE X E W .rd e m1) : CS X E W (.Return (some e) pos) (fun ρ => m1 ρ >>= fun d => pure (.ret d, ρ)) := by
  obtain ⟨t, p, k⟩ := h
  refine ⟨_, ps_ret p, fun σ H ρ s M0 A D R dl h => ?_⟩
  refine k σ H ρ s M0 A _ R dl ((h.expr R).mono fun d s1 H1 _ x1 d1 h v r => ?_)
  exact h v H1 Ext.refl d1 (fun b m => (R.ext x1 d1).mok b (.inl m)) r
theorem s_retN : CS X E W (.Return none pos) (fun ρ => pure (.ret .non, ρ)) :=
  ⟨_, ps_retN, fun σ H ρ s M0 A D R dl h => h .non H Ext.refl dl (fun b m => R.mok b (.inl m)) .non⟩
theorem s_expr (h : CE X E W .sh e m1) (hs : swapsWith e none pos.line X.env = pure false := by rfl) : CS X E W (.Expr e pos) (fun ρ => m1 ρ >>= fun _ => pure (.nx, ρ)) := by
  obtain ⟨t, p, k⟩ := h
  refine ⟨_, ps_expr p hs, fun σ H ρ s M0 A D R dl h => ?_⟩
  refine k σ H ρ s M0 A _ R dl ((h.expr R).mono fun d s1 H1 _ x1 d1 h v r => ?_)
  exact h σ H1 A (R.ext x1 d1) Ext.refl Sub.refl d1
theorem s_if {c : Expr} {a b : List Stmt} {mc : PEnv → M Bool} (hc : CT X E W c mc) (ha : CB X E W a n) (hb : CB X E W b n2) : CS X E W (.If c a b pos) (fun ρ => mc ρ >>= fun b => if b then n ρ else n2 ρ) := by
  obtain ⟨t, p, k⟩ := hc
  obtain ⟨t1, p1, k1⟩ := ha
  obtain ⟨t2, p2, k2⟩ := hb
  refine ⟨_, ps_if p p1 p2, fun σ H ρ s M0 A D R dl h => ?_⟩
  refine k σ H ρ s M0 A _ R dl ((h.expr R).mono fun b s1 H1 _ x1 d1 h => ?_)
  cases b with
  | true => exact k1 σ H1 ρ s1 M0 A D (R.ext x1 d1) d1 h
  | false => exact k2 σ H1 ρ s1 M0 A D (R.ext x1 d1) d1 h

/-! ### stores -/
/-- name = a datum -/
theorem s_set (c : Ctx X E W k) (i : Nat) {pos' : Pos} (h : CE X E W .full e m1) (hi : X.N[i]? = some x := by rfl) (hx : Loc X.env.scope x := by first | exact Or.inl rfl | exact Or.inr rfl) (hs : swapsWith e (some (.Name x pos')) pos.line X.env = pure false := by rfl)
    (hf : X.fn x = true ∨ X.env.scope.names.lookup x = some .local := by first | exact .inl rfl | exact .inr rfl) : CS X E W (.Assign [.Name x pos'] e pos) (fun ρ => m1 ρ >>= fun d => pure (.nx, ρ.set i (.im d))) := by
  obtain ⟨t, p, k⟩ := h
  refine ⟨_, ps_set (i := i) c.nd hi hx p hs hf, fun σ H ρ s M0 A D R dl h => ?_⟩
  refine k σ H ρ s M0 A _ R dl ((h.expr R).mono fun d s1 H1 _ x1 d1 h v r => ?_)
  exact h _ H1 _ ((R.ext x1 d1).setI r) Ext.refl (Sub.less fun _ _ z => clr_some z) d1
/-- name = a new list, which the def may change -/
theorem s_setM (c : Ctx X E W k) (i : Nat) {n : PEnv → M (List D)} {pos' : Pos} (h : CF X E W e n) (hi : X.N[i]? = some x := by rfl) (hx : Loc X.env.scope x := by first | exact Or.inl rfl | exact Or.inr rfl) (hs : swapsWith e (some (.Name x pos')) pos.line X.env = pure false := by rfl)
    (hf : X.fn x = true ∨ X.env.scope.names.lookup x = some .local := by first | exact .inl rfl | exact .inr rfl) : CS X E W (.Assign [.Name x pos'] e pos) (fun ρ => n ρ >>= fun l => pure (.nx, ρ.set i (.mu l))) := by
  obtain ⟨t, p, k⟩ := h
  refine ⟨_, ps_set (i := i) c.nd hi hx p hs hf, fun σ H ρ s M0 A D R dl h => ?_⟩
  refine k σ H ρ s M0 A _ R dl ?_
  dsimp only at h
  rw [bind_run] at h
  cases e0 : n ρ s with
  | ok l s1 =>
    rw [e0] at h
    intro H1 x1 d1 a vs h0 h1 r
    refine h _ H1 _ (R.setM (i := i) x1 d1 h0 h1 r) (x1.mono fun _ z => .inl z) (fun j b z => ?_) d1
    rcases own1_cases z with ⟨_, q⟩ | ⟨_, q⟩
    · rw [q]; exact .inr h0
    · exact .inl ⟨j, q⟩
  | exc cc l s' =>
    rw [e0] at h
    exact fun H' dct x d q => h H' dct (x.mono fun _ z => .inl z) d q
  | bad => rw [e0] at h; exact h
theorem s_setD (c : Ctx X E W k) (i : Nat) {tt : Bool} {n : PEnv → M (List (D × D))} {pos' : Pos} (h : CD X E W e tt n) (hi : X.N[i]? = some x := by rfl) (hx : Loc X.env.scope x := by first | exact Or.inl rfl | exact Or.inr rfl) (hs : swapsWith e (some (.Name x pos')) pos.line X.env = pure false := by rfl)
    (hf : X.fn x = true ∨ X.env.scope.names.lookup x = some .local := by first | exact .inl rfl | exact .inr rfl) : CS X E W (.Assign [.Name x pos'] e pos) (fun ρ => n ρ >>= fun l => pure (.nx, ρ.set i (.md tt l))) := by
  obtain ⟨t, p, k⟩ := h
  refine ⟨_, ps_set (i := i) c.nd hi hx p hs hf, fun σ H ρ s M0 A D R dl h => ?_⟩
  refine k σ H ρ s M0 A _ R dl ?_
  dsimp only at h
  rw [bind_run] at h
  cases e0 : n ρ s with
  | ok l s1 =>
    rw [e0] at h
    intro H1 x1 d1 a h0 h1
    refine h _ H1 _ (R.setD (i := i) x1 d1 h0 h1) (x1.mono fun _ z => .inl z) (fun j b z => ?_) d1
    rcases own1_cases z with ⟨_, q⟩ | ⟨_, q⟩
    · rw [q]; exact .inr h0
    · exact .inl ⟨j, q⟩
  | exc cc l s' =>
    rw [e0] at h
    exact fun H' dct x d q => h H' dct (x.mono fun _ z => .inl z) d q
  | bad => rw [e0] at h; exact h
/-- the list that a name owns -/
def muAt (i : Nat) (ρ : PEnv) : Option (List D) := match ρ[i]? with
  | some (.mu l) => some l
  | _ => none
def mdAt (i : Nat) (ρ : PEnv) : Option (Bool × List (D × D)) := match ρ[i]? with
  | some (.md t l) => some (t, l)
  | _ => none
theorem muAt_some {i : Nat} {ρ : PEnv} {l : List D} (h : muAt i ρ = some l) : ρ[i]? = some (.mu l) := by
  unfold muAt at h
  split at h
  · cases h; assumption
  · cases h
theorem mdAt_some {i : Nat} {ρ : PEnv} {t : Bool} {l : List (D × D)} (h : mdAt i ρ = some (t, l)) : ρ[i]? = some (.md t l) := by
  unfold mdAt at h
  split at h
  · cases h; assumption
  · cases h
theorem SFin.lift {M0 : Addr → Prop} {A : Nat → Option Addr} {H : Hp} {s : Dl} {D : Ends} {α : Type} {o : Option α} {f : α → M (Fl × PEnv)} (h : SFin E W M0 A H ((PL.lift o >>= f) s) D) : ∃ a, o = some a ∧ SFin E W M0 A H (f a s) D := by
  cases o with
  | none => exact h.elim
  | some a => exact ⟨a, rfl, h⟩
/-- x.append(e) -/
def appM (i : Nat) (m : PEnv → M D) : PEnv → M (Fl × PEnv) := fun ρ => lift (muAt i ρ) >>= fun l => m ρ >>= fun d => lift (if l.length < sizeLine then some () else none) >>= fun _ => pure (.nx, ρ.set i (.mu (l ++ [d])))
theorem s_append (c : Ctx X E W k) (i : Nat) {p1 p2 p3 p4 : Pos} (h : CE X E W .full e m1) (hN : X.N[i]? = some x := by rfl) (hv : Vis X.env.scope x := by first | exact Or.inl rfl | exact Or.inr (Or.inl rfl) | exact Or.inr (Or.inr rfl)) (hd : (x == ("__debug__" : Str)) = false := by decide)
    (hcd : (x == ("__classdict__" : Str)) = false := by decide) (hbase : attributeBase (.Name x p1) "append" X.env (eval (.Name x p1) X.env) = eval (.Name x p1) X.env := by rfl)
    (hfew : ((backTo p3 (starEach [e] X.env)).all (fun x => !x.1) && (backToKw p3 (keywordEach [] X.env)).all (fun x => x.1.isSome)
      && decide (([e] : List Expr).length + ([] : List Keyword).length + (if ([] : List Keyword).isEmpty then 0 else 1) < 30)) = true := by rfl)
    (hline : (p2.endLine == p3.line) = true := by rfl) (hs : starEach [e] X.env = (false, eval e X.env) :: starEach [] X.env := by rfl)
    (hsw : swapsWith (.Call (.Attribute (.Name x p1) "append" p2) [e] [] p3) none p4.line X.env = pure false := by rfl) :
    CS X E W (.Expr (.Call (.Attribute (.Name x p1) "append" p2) [e] [] p3) p4) (appM i m1) := by
  obtain ⟨t, p, k⟩ := h
  refine ⟨_, ps_expr (pe_bm PySem.F.plainAttrs_list PySem.F.slot_list_append PySem.F.type_list_append mt_append (pe_var (i := i) hN hv hd hcd) (pa_cons p pa_nil hs) hbase hfew hline hs rfl) hsw, fun σ H ρ s M0 A D R dl h => ?_⟩
  unfold appM at h
  obtain ⟨l, el, h⟩ := h.lift
  have e0 := muAt_some el
  obtain ⟨a, vs, o1, o2, o3, o4⟩ := R.at_ i _ e0
  refine ⟨.ref a, o2, .inl ⟨rfl, vs, SqL.of o3⟩, ?_⟩
  refine k σ H ρ s M0 A _ R dl ((h.expr R).mono fun d s1 H1 _ x1 d1 h v r => ?_)
  have R1 := R.ext x1 d1
  obtain ⟨_, e2, h⟩ := h.lift
  split at e2
  · rename_i hz
    obtain ⟨a', us, q1, q2, q3, q4⟩ := R1.at_ i _ e0
    rw [o1] at q1
    cases q1
    refine ⟨a, us, v, rfl, rfl, q3, by rw [q4.length]; exact hz, ?_⟩
    refine h σ _ A (R1.write o1 trivial ⟨a, us ++ [v], rfl, q2, upd_same, ?_⟩) (Ext.upd_own o1) Sub.refl (DealAt.upd_own R1 o1 d1)
    refine RepA.extS (Mw := fun b => b = a) (fun b u e n => by rw [upd_ne n]; exact e) (fun b z => by rw [z]; exact R1.mok a (.inr ⟨i, o1⟩)) (fun b z => by rw [z]; exact .inr ⟨i, o1⟩) (q4.append (.cons r .nil))
  · cases e2
/-- x[j] = e -/
def setM (i : Nat) (m mj : PEnv → M D) : PEnv → M (Fl × PEnv) := fun ρ => m ρ >>= fun d => lift (muAt i ρ) >>= fun l => mj ρ >>= fun j => lift ((asIO j).bind fun z => ixN l.length z) >>= fun q => pure (.nx, ρ.set i (.mu (l.set q d)))
theorem s_setitem (c : Ctx X E W k) (i : Nat) {p1 p2 p4 : Pos} (h : CE X E W .full e m1) (hj : CE X E W .sh e2 m2) (hN : X.N[i]? = some x := by rfl) (hv : Vis X.env.scope x := by first | exact Or.inl rfl | exact Or.inr (Or.inl rfl) | exact Or.inr (Or.inr rfl)) (hd : (x == ("__debug__" : Str)) = false := by decide)
    (hcd : (x == ("__classdict__" : Str)) = false := by decide) (ha : ∀ v, assign (.Subscript (.Name x p1) e2 p2) X.env v = (do
      let ov ← holding [v] (eval (.Name x p1) X.env)
      let iv ← holding [v, ov] (eval e2 X.env)
      standAt p2
      holding [v, ov, iv] (setItem ov iv v)
      release [v, ov, iv] []) := by intro _; rfl)
    (hs : swapsWithSole [(.Subscript (.Name x p1) e2 p2)] e p4.line X.env = pure false := by rfl) (hw : swappedStores [(.Subscript (.Name x p1) e2 p2)] e X.env = pure none := by rfl)
    (h1 : (assignEach [(.Subscript (.Name x p1) e2 p2)] X.env).map (·.2) = [assign (.Subscript (.Name x p1) e2 p2) X.env] := by rfl) :
    CS X E W (.Assign [.Subscript (.Name x p1) e2 p2] e p4) (setM i m1 m2) := by
  obtain ⟨t, p, k⟩ := h
  obtain ⟨tj, pj, kj⟩ := hj
  refine ⟨_, ps_asg p (pg_sub (pe_var (i := i) hN hv hd hcd) pj set_list ha) hs hw h1, fun σ H ρ s M0 A D R dl h => ?_⟩
  unfold setM at h
  refine k σ H ρ s M0 A _ R dl ((h.expr R).mono fun d s1 H1 _ x1 d1 h v r => ?_)
  have R1 := R.ext x1 d1
  obtain ⟨l, el, h⟩ := h.lift
  have e0 := muAt_some el
  obtain ⟨a, vs, o1, o2, o3, o4⟩ := R1.at_ i _ e0
  refine ⟨.ref a, o2, ?_⟩
  refine kj σ H1 ρ s1 M0 A _ R1 d1 ((h.expr R1).mono fun z s2 H2 _ x2 d2 h w r2 => ?_)
  have R2 := R1.ext x2 d2
  obtain ⟨q, e2, g⟩ := h.lift
  rw [Option.bind_eq_some_iff] at e2
  obtain ⟨zi, ez, eq⟩ := e2
  cases z with
  | int zj =>
    cases ez
    obtain rfl := r2.int
    obtain ⟨a', us, q1, q2, q3, q4⟩ := R2.at_ i _ e0
    rw [o1] at q1
    cases q1
    refine ⟨a, us, _, q, rfl, rfl, q3, by rw [q4.length]; exact eq, ?_⟩
    refine g σ _ A (R2.write o1 trivial ⟨a, us.set q v, rfl, q2, upd_same, ?_⟩) (Ext.upd_own o1) Sub.refl (DealAt.upd_own R2 o1 d2)
    exact RepA.extS (Mw := fun b => b = a) (fun b u e n => by rw [upd_ne n]; exact e) (fun b z => by rw [z]; exact R2.mok a (.inr ⟨i, o1⟩)) (fun b z => by rw [z]; exact .inr ⟨i, o1⟩) (q4.set ((show Rep E (Own M0 A) H1 v d from r).ext (R1.extM x2) R1.mok) q)
  | _ => cases ez
end
end PL
end
section
set_option Elab.async false
set_option linter.all false
set_option maxRecDepth 100000
/-! PL7: targets, loops. -/
namespace PL
open PySem PySem.Spec L2

/-- a target; ns: the places it stores -/
def CT1 (X : Cx) (E : Ev) (tg : Expr) (ns : List Nat) (g : D → PEnv → Option PEnv) : Prop :=
  ∃ t : TG, PG X tg t ∧ ∀ (σ : L2.St) (H : Hp) (ρ ρ' : PEnv) (M0 : Addr → Prop) (A : Nat → Option Addr) (v : V) (d : D) (Q : L2.St → Hp → Prop), ER E M0 A H σ ρ → Rep E (Own M0 A) H v d → g d ρ = some ρ' →
    (∀ σ' A', ER E M0 A' H σ' ρ' → (∀ i a, A' i = some a → A i = some a) → (∀ i a, A i = some a → i ∉ ns → A' i = some a) → (∀ vs, (∀ i ∈ ns, i ∈ vs) → wipe σ' vs = wipe σ vs) → Q σ' H) → t v σ H Q
def CT2 (X : Cx) (E : Ev) (ts : List Expr) (ns : List Nat) (g : List D → PEnv → Option PEnv) : Prop :=
  ∃ t : TGs, PGs X ts t ∧ ∀ (σ : L2.St) (H : Hp) (ρ ρ' : PEnv) (M0 : Addr → Prop) (A : Nat → Option Addr) (vs : List V) (ds : List D) (Q : L2.St → Hp → Prop), ER E M0 A H σ ρ → RepA E (Own M0 A) H vs ds → g ds ρ = some ρ' →
    (∀ σ' A', ER E M0 A' H σ' ρ' → (∀ i a, A' i = some a → A i = some a) → (∀ i a, A i = some a → i ∉ ns → A' i = some a) → (∀ vs, (∀ i ∈ ns, i ∈ vs) → wipe σ' vs = wipe σ vs) → Q σ' H) → t vs σ H Q
def gN (i : Nat) : D → PEnv → Option PEnv := fun d ρ => some (ρ.set i (.im d))
def gNil' : List D → PEnv → Option PEnv := fun ds ρ => match ds with
  | [] => some ρ
  | _ => none
def gCons' (g : D → PEnv → Option PEnv) (gs : List D → PEnv → Option PEnv) : List D → PEnv → Option PEnv := fun ds ρ => match ds with
  | d :: r => (g d ρ).bind (gs r)
  | [] => none
def gTup' (gs : List D → PEnv → Option PEnv) : D → PEnv → Option PEnv := fun d ρ => match d with
  | .tup _ l => gs l ρ
  | .lst l => gs l ρ
  | _ => none
theorem wipe_set_mem {σ : L2.St} {i : Nat} {x : Option V} : ∀ {vs : List Nat}, i ∈ vs → wipe (σ.set i x) vs = wipe σ vs
  | v :: vs, h => by
    unfold wipe
    by_cases e : i = v
    · subst e
      by_cases hm : i ∈ vs
      · rw [wipe_set_mem hm]
      · have q : ∀ {us : List Nat}, i ∉ us → wipe (σ.set i x) us = (wipe σ us).set i x := by
          intro us
          induction us with
          | nil => intro _; rfl
          | cons u us ih =>
            intro hn
            simp only [List.mem_cons, not_or] at hn
            unfold wipe
            rw [ih hn.2, List.set_comm _ _ hn.1]
        rw [q hm, List.set_set]
    · rcases List.mem_cons.mp h with z | z
      · exact absurd z e
      · rw [wipe_set_mem z]

section
variable {X : Cx} {E : Ev} {W : XK} {lv : Lv} {k : Nat} {e tg iter : Expr} {x : Str} {pos p : Pos} {m1 m2 : PEnv → M D}

theorem y_name (c : Ctx X E W k) (i : Nat) (hi : X.N[i]? = some x := by rfl) (hx : Loc X.env.scope x := by first | exact Or.inl rfl | exact Or.inr rfl)
    (hf : X.fn x = true ∨ X.env.scope.names.lookup x = some .local := by first | exact .inl rfl | exact .inr rfl) : CT1 X E (.Name x pos) [i] (gN i) := by
  refine ⟨_, pg_name (i := i) c.nd hi hx hf, fun σ H ρ ρ' M0 A v d Q R r e q => ?_⟩
  cases e
  exact q _ _ (R.setI r) (fun _ _ z => clr_some z) (fun j a h n => by unfold clr; rw [if_neg (fun e => n (by simp [e]))]; exact h) fun vs h => wipe_set_mem (h i (by simp))
theorem y_nil : CT2 X E [] [] gNil' := by
  refine ⟨_, pgs_nil, fun σ H ρ ρ' M0 A vs ds Q R r e q => ?_⟩
  cases r with
  | nil =>
    cases e
    exact ⟨rfl, q σ A R (fun _ _ z => z) (fun _ _ z _ => z) fun _ _ => rfl⟩
  | cons _ _ => cases e
theorem y_cons {es : List Expr} {ns ms : List Nat} {g : D → PEnv → Option PEnv} {gs : List D → PEnv → Option PEnv} (h1 : CT1 X E e ns g) (h2 : CT2 X E es ms gs) (hs : (assignEach (e :: es) X.env).map (·.2) = assign e X.env :: (assignEach es X.env).map (·.2) := by rfl) :
    CT2 X E (e :: es) (ns ++ ms) (gCons' g gs) := by
  obtain ⟨t, p, k1⟩ := h1
  obtain ⟨u, q, k2⟩ := h2
  refine ⟨_, pgs_cons p q hs, fun σ H ρ ρ' M0 A vs ds Q R r e q => ?_⟩
  cases r with
  | nil => cases e
  | cons r1 r2 =>
    rename_i v vs d ds
    have e : (g d ρ).bind (gs ds) = some ρ' := e
    rw [Option.bind_eq_some_iff] at e
    obtain ⟨ρ1, e1, e2⟩ := e
    refine ⟨v, vs, rfl, k1 σ H ρ ρ1 M0 A v d _ R r1 e1 fun σ1 A1 R1 l1 b1 w1 => ?_⟩
    refine k2 σ1 H ρ1 ρ' M0 A1 vs ds Q R1 (r2.mono (Own.less l1)) e2 fun σ2 A2 R2 l2 b2 w2 => ?_
    exact q σ2 A2 R2 (fun i a z => l1 i a (l2 i a z)) (fun i a z n => b2 i a (b1 i a z fun h => n (List.mem_append_left _ h)) fun h => n (List.mem_append_right _ h)) fun us h => (w2 us fun i hi => h i (List.mem_append_right _ hi)).trans (w1 us fun i hi => h i (List.mem_append_left _ hi))
theorem sq_of {Mv : Addr → Prop} {H : Hp} {kk : Bool} {v : V} {l : List D} (r : Rep E Mv H v (.tup kk l)) : ∃ a vs, v = .ref a ∧ SqT E.K H a vs ∧ RepA E Mv H vs l := by
  cases r with
  | tup h r => exact ⟨_, _, rfl, .inl (.inl h), r⟩
  | tupK h r => exact ⟨_, _, rfl, h.sq, r⟩
theorem gs_len : ∀ {ts : List Expr} {ns : List Nat} {gs : List D → PEnv → Option PEnv}, True := trivial
theorem pg_or {tg : Expr} {t u : TG} (h1 : PG X tg t) (h2 : PG X tg u) : PG X tg (fun v σ H Q => t v σ H Q ∨ u v σ H Q) :=
  ⟨fun pins s σ H v w Q I r h => h.elim (fun h => h1.run pins s σ H v w Q I r h) fun h => h2.run pins s σ H v w Q I r h⟩
theorem y_tup {es : List Expr} {j n : Nat} {ns : List Nat} {gs : List D → PEnv → Option PEnv} (c : Ctx X E W k) (h : CT2 X E es ns gs) (hl : ∀ ds ρ ρ', gs ds ρ = some ρ' → ds.length = n) (hn : (assignEach es X.env).length = n := by rfl) (hst : (assignEach es X.env).findIdx? (·.1) = none := by rfl) :
    CT1 X E (.Tuple es j pos) ns (gTup' gs) := by
  obtain ⟨t, p, k⟩ := h
  refine ⟨_, pg_or (pg_tup c.calm p hn hst) (pg_unl c.calm p hn hst), fun σ H ρ ρ' M0 A v d Q R r e q => ?_⟩
  cases d with
  | tup kk l =>
    have e : gs l ρ = some ρ' := e
    obtain ⟨a, vs, rfl, h1, r1⟩ := sq_of r
    rw [← c.K]
    refine .inl ⟨a, vs, rfl, h1, by rw [r1.length]; exact hl _ _ _ e, ?_⟩
    exact k σ H ρ ρ' M0 A vs l Q R r1 e q
  | lst l =>
    have e : gs l ρ = some ρ' := e
    cases r with
    | lst h1 _ r1 =>
      refine .inr ⟨_, _, rfl, SqL.of h1, by rw [r1.length]; exact hl _ _ _ e, ?_⟩
      exact k σ H ρ ρ' M0 A _ l Q R r1 e q
  | _ => cases e
theorem len_nil : ∀ (ds : List D) (ρ ρ' : PEnv), gNil' ds ρ = some ρ' → ds.length = 0 := fun ds ρ ρ' h => by
  cases ds with
  | nil => rfl
  | cons _ _ => cases h
theorem len_cons {g : D → PEnv → Option PEnv} {gs : List D → PEnv → Option PEnv} {n : Nat} (h : ∀ (ds : List D) (ρ ρ' : PEnv), gs ds ρ = some ρ' → ds.length = n) : ∀ (ds : List D) (ρ ρ' : PEnv), gCons' g gs ds ρ = some ρ' → ds.length = n + 1 := fun ds ρ ρ' e => by
  cases ds with
  | nil => cases e
  | cons d r =>
    have e : (g d ρ).bind (gs r) = some ρ' := e
    rw [Option.bind_eq_some_iff] at e
    obtain ⟨ρ1, _, e2⟩ := e
    rw [List.length_cons, h r ρ1 ρ' e2]
/-- target = value -/
theorem s_asg {ns : List Nat} {g : D → PEnv → Option PEnv} (h : CE X E W .full e m1) (hg : CT1 X E tg ns g) (hs : swapsWithSole [tg] e pos.line X.env = pure false := by rfl) (hw : swappedStores [tg] e X.env = pure none := by rfl)
    (h1 : (assignEach [tg] X.env).map (·.2) = [assign tg X.env] := by rfl) : CS X E W (.Assign [tg] e pos) (fun ρ => m1 ρ >>= fun d => lift (g d ρ) >>= fun ρ' => pure (.nx, ρ')) := by
  obtain ⟨t, p, k⟩ := h
  obtain ⟨u, q, kg⟩ := hg
  refine ⟨_, ps_asg p q hs hw h1, fun σ H ρ s M0 A D R dl h => ?_⟩
  refine k σ H ρ s M0 A _ R dl ((h.expr R).mono fun d s1 H1 _ x1 d1 h v r => ?_)
  obtain ⟨ρ', e, h⟩ := h.lift
  exact kg σ H1 ρ ρ' M0 A v d _ (R.ext x1 d1) r e fun σ' A' R' l' _ _ => h σ' H1 A' R' Ext.refl (Sub.less l') d1
/-- a, b = x, y with plain local names -/
theorem s_par (c : Ctx X E W k) (i j : Nat) {y : Str} {a b : Expr} {px py pt pt2 : Pos} {kt k2 : Nat} (ha : CA X E W .full [a, b] (fun ρ => m1 ρ >>= fun d => (m2 ρ >>= fun e => pure [] >>= fun l => pure (e :: l)) >>= fun l => pure (d :: l)))
    (hi : X.N[i]? = some x := by rfl) (hj : X.N[j]? = some y := by rfl) (hij : i ≠ j := by decide)
    (hx : X.env.scope.names.lookup x = some .local := by rfl) (hy : X.env.scope.names.lookup y = some .local := by rfl)
    (hw : swappedStores [.Tuple [.Name x px, .Name y py] kt pt] (.Tuple [a, b] k2 pt2) X.env = pure (some [x, y]) := by rfl)
    (hs : swapsWithSole [.Tuple [.Name x px, .Name y py] kt pt] (.Tuple [a, b] k2 pt2) pos.line X.env = pure false := by rfl) :
    CS X E W (.Assign [.Tuple [.Name x px, .Name y py] kt pt] (.Tuple [a, b] k2 pt2) pos) (fun ρ => m1 ρ >>= fun d => m2 ρ >>= fun e => pure (.nx, (ρ.set i (.im d)).set j (.im e))) := by
  obtain ⟨t, p, k⟩ := ha
  refine ⟨_, ps_par c.calm c.nd hi hj hij hx hy p hw hs, fun σ H ρ s M0 A D R dl h => ?_⟩
  refine k σ H ρ s M0 A _ R dl ?_
  have e1 : ((m1 ρ >>= fun d => (m2 ρ >>= fun e => pure [] >>= fun l => pure (e :: l)) >>= fun l => pure (d :: l)) : M (List PL.D)) = (m1 ρ >>= fun d => m2 ρ >>= fun e => pure [d, e]) := by
    simp only [bind_assoc', pure_bind']
  dsimp only
  rw [e1]
  have h : SFin E W M0 A H (((m1 ρ >>= fun d => m2 ρ >>= fun e => pure [d, e]) >>= fun l => match l with | [d, e] => pure (Fl.nx, (ρ.set i (.im d)).set j (.im e)) | _ => fail) s) D := by
    simp only [bind_assoc', pure_bind']
    exact h
  refine (h.expr R).mono fun l s1 H1 _ x1 d1 h vs rs => ?_
  have ra := pairedA rs
  have R1 := R.ext x1 d1
  cases ra with
  | nil => exact h.elim
  | cons r1 t =>
    cases t with
    | nil => exact h.elim
    | cons r2 t =>
      cases t with
      | cons _ _ => exact h.elim
      | nil =>
        refine ⟨_, _, rfl, ?_⟩
        have Ra := R1.setI (i := i) r1
        have less : ∀ l a, clr A i l = some a → A l = some a := fun _ _ z => clr_some z
        have Rb := Ra.setI (i := j) (r2.mono (Own.less less))
        exact h _ H1 _ Rb Ext.refl (Sub.less fun _ _ z => less _ _ (clr_some z)) d1

/-! ### what a loop walks -/
def Yld (E : Ev) (Mv : Addr → Prop) (J : It) (ds : List D) (H : Hp) : Prop := ∀ H', Ext Mv H H' → (∀ i d, ds[i]? = some d → J.go i H' ∧ ∀ x H'', J.yld i H' x H'' → Same H' H'' ∧ Rep E (fun a => Mv a ∨ H a = none) H'' x d) ∧ J.stop ds.length H'
def CI (X : Cx) (E : Ev) (W : XK) (tg iter : Expr) (m : PEnv → M (List D)) : Prop :=
  ∃ wi : TI, PI X tg iter wi ∧ ∀ (σ : L2.St) (H : Hp) (ρ : PEnv) (s : Dl) (M0 : Addr → Prop) (A : Nat → Option Addr) (R : It → Hp → Prop), ER E M0 A H σ ρ → DealAt E H s →
    Fin E W H (m ρ s) (fun ds _ H' => ∀ J, Yld E (Own M0 A) J ds H' → R J H') → wi σ H R
theorem PI.or {wi wj : TI} (h : PI X tg iter wi) (h' : PI X tg iter wj) : PI X tg iter (fun σ H R => wi σ H R ∨ wj σ H R) := by
  refine ⟨fun pins s σ H R I h1 => ?_⟩
  rcases h1 with h1 | h1
  · exact h.run pins s σ H R I h1
  · exact h'.run pins s σ H R I h1
def asSeqO : D → Option (List D)
  | .lst l => some l
  | .tup _ l => some l
  | _ => none
theorem Rep.lift_ext {Mv : Addr → Prop} {H H' : Hp} (x : Ext Mv H H') (m : MOk Mv H) {vs : List V} {ds : List D} (r : RepA E Mv H vs ds) : RepA E (fun a => Mv a ∨ H a = none) H' vs ds := r.fresh.extS x m fun _ z => .inl z
theorem yld_list {Mv : Addr → Prop} {H : Hp} (m : MOk Mv H) {a : Addr} {vs : List V} {ds : List D} (h1 : H a = some (.lst vs)) (n : ¬ Mv a) (r : RepA E Mv H vs ds) : Yld E Mv (Itl E.K a) ds H := by
  intro H' x
  have h2 := x _ _ h1 n
  have r2 := Rep.lift_ext x m r
  refine ⟨fun i d e => ?_, ⟨vs, SqL.of h2, by rw [r.length]; exact Nat.le_refl _⟩⟩
  obtain ⟨v, e1, rv⟩ := r2.get e
  refine ⟨⟨vs, v, SqL.of h2, e1⟩, fun y H'' q => ?_⟩
  obtain ⟨rfl, q⟩ := q
  have := q vs (SqL.of h2)
  rw [e1] at this
  cases this
  exact ⟨Same.refl _, rv⟩
theorem yld_tup {Mv : Addr → Prop} {H : Hp} (m : MOk Mv H) {a : Addr} {vs : List V} {ds : List D} (h1 : SqT E.K H a vs) (r : RepA E Mv H vs ds) : Yld E Mv (Itt E.K a) ds H := by
  intro H' x
  have h2 := SqT.ext x m h1
  have r2 := Rep.lift_ext x m r
  refine ⟨fun i d e => ?_, ⟨vs, h2, by rw [r.length]; exact Nat.le_refl _⟩⟩
  obtain ⟨v, e1, rv⟩ := r2.get e
  refine ⟨⟨vs, v, h2, e1⟩, fun y H'' q => ?_⟩
  obtain ⟨rfl, q⟩ := q
  have := q vs h2
  rw [e1] at this
  cases this
  exact ⟨Same.refl _, rv⟩
/-- a list or a tuple that is not changed meanwhile -/
theorem i_seq (c : Ctx X E W k) (h : CE X E W .full iter m1) : CI X E W tg iter (fun ρ => m1 ρ >>= fun d => lift (asSeqO d)) := by
  obtain ⟨t, p, kk⟩ := h
  refine ⟨_, PI.or (pi_list p) (pi_tup p), fun σ H ρ s M0 A R0 R dl h => ?_⟩
  -- which of both is known by the outcome
  have both : ∀ (P Q : Prop), (P → P ∨ Q) ∧ (Q → P ∨ Q) := fun _ _ => ⟨.inl, .inr⟩
  have cs : (∃ l s1, m1 ρ s = .ok (.lst l) s1) ∨ ¬ ∃ l s1, m1 ρ s = .ok (.lst l) s1 := Classical.em _
  rcases cs with ⟨l, s1, e0⟩ | cs
  · refine .inl (kk σ H ρ s M0 A _ R dl (h.bind.mono fun d s1 H1 e1 x1 d1 h v r => ?_))
    rw [e0] at e1
    cases e1
    have R1 := R.ext x1 d1
    have r : Rep E (Own M0 A) H1 v (.lst l) := r
    cases r with
    | lst q1 q2 q3 =>
      rw [← c.K]
      exact ⟨_, rfl, ⟨_, SqL.of q1⟩, h.ok d1 _ (yld_list R1.mok q1 q2 q3)⟩
  · refine .inr (kk σ H ρ s M0 A _ R dl (h.bind.mono fun d s1 H1 e1 x1 d1 h v r => ?_))
    have R1 := R.ext x1 d1
    obtain ⟨ds, e2, g⟩ := h.lift
    cases d with
    | tup kb l =>
      cases e2
      obtain ⟨a, vs, rfl, q1, q2⟩ := sq_of r
      rw [← c.K]
      exact ⟨_, rfl, ⟨_, q1⟩, g H1 Ext.refl d1 _ (yld_tup R1.mok q1 q2)⟩
    | lst l => exact absurd ⟨l, s1, e1⟩ cs
    | _ => cases e2
def rangeL (lo : Int) (n : Nat) : List D := (List.range n).map fun (i : Nat) => D.int (lo + (i : Int))
theorem yld_range {Mv : Addr → Prop} {H : Hp} {lo : Int} {n : Nat} : Yld E Mv (Itr lo n) (rangeL lo n) H := by
  intro H' x
  refine ⟨fun i d e => ?_, by show n ≤ _; simp [rangeL]⟩
  unfold rangeL at e
  rw [List.getElem?_map, Option.map_eq_some_iff] at e
  obtain ⟨j, e1, rfl⟩ := e
  have hi : i < n := by
    have := (List.getElem?_eq_some_iff.mp e1).1
    simpa using this
  have ej : j = i := by
    rw [List.getElem?_range hi] at e1
    exact (Option.some.inj e1).symm
  subst ej
  refine ⟨hi, fun y H'' q => ?_⟩
  obtain ⟨rfl, rfl⟩ := q
  exact ⟨Same.refl _, .int _⟩
def small62 (i : Int) : Bool := decide (-(2 ^ 62) ≤ i ∧ i < 2 ^ 62)
def rng1O : D → Option (List D)
  | .int j => if small62 j then some (rangeL 0 j.toNat) else none
  | _ => none
def rng2O : D → D → Option (List D)
  | .int i, .int j => if small62 i && small62 j then some (rangeL i (j - i).toNat) else none
  | _, _ => none
theorem i_range1 (hm : X.mg "range" = none) (h : CE X E W .sh e m1) (hg : Gl X "range" := by rfl) (hs : starEach [e] X.env = (false, eval e X.env) :: starEach [] X.env := by rfl) (hs2 : starEach [e] X.env = [(false, eval e X.env)] := by rfl) : CI X E W tg (.Call (.Name "range" p) [e] [] pos) (fun ρ => m1 ρ >>= fun d => lift (rng1O d)) := by
  obtain ⟨t, q, kk⟩ := h
  refine ⟨_, pi_range1 hg hm (pa_cons q pa_nil hs) hs2, fun σ H ρ s M0 A R0 R dl h => ?_⟩
  refine kk σ H ρ s M0 A _ R dl (h.bind.mono fun d s1 H1 e1 x1 d1 h v r => ?_)
  obtain ⟨ds, e2, g⟩ := h.lift
  cases d with
  | int j =>
    obtain rfl := r.int
    have e2 : (if small62 j then some (rangeL 0 j.toNat) else none) = some ds := e2
    split at e2
    · rename_i hj
      have hj := of_decide_eq_true hj
      cases e2
      exact ⟨j, rfl, hj.1, hj.2, g H1 Ext.refl d1 _ yld_range⟩
    · cases e2
  | _ => cases e2
theorem i_range2 {e2 : Expr} (hm : X.mg "range" = none) (h : CE X E W .sh e m1) (h2 : CE X E W .sh e2 m2) (hg : Gl X "range" := by rfl) (hs : starEach [e, e2] X.env = (false, eval e X.env) :: starEach [e2] X.env := by rfl) (hs2 : starEach [e2] X.env = (false, eval e2 X.env) :: starEach [] X.env := by rfl)
    (hs3 : starEach [e, e2] X.env = [(false, eval e X.env), (false, eval e2 X.env)] := by rfl) (hs4 : starEach [e2] X.env = [(false, eval e2 X.env)] := by rfl) : CI X E W tg (.Call (.Name "range" p) [e, e2] [] pos) (fun ρ => m1 ρ >>= fun d => m2 ρ >>= fun z => lift (rng2O d z)) := by
  obtain ⟨t, q, kk⟩ := h
  obtain ⟨t2, q2, kk2⟩ := h2
  refine ⟨_, pi_range2 hg hm (pa_cons q (pa_cons q2 pa_nil hs2) hs) hs3 hs4, fun σ H ρ s M0 A R0 R dl h => ?_⟩
  refine kk σ H ρ s M0 A _ R dl (h.bind.mono fun d s1 H1 e1 x1 d1 h v r => ?_)
  have R1 := R.ext x1 d1
  refine kk2 σ H1 ρ s1 M0 A _ R1 d1 (h.bind.mono fun z s2 H2 e1 x2 d2 h w r2 => ?_)
  obtain ⟨ds, e2, g⟩ := h.lift
  unfold rng2O at e2
  split at e2
  · split at e2
    · rename_i hj
      rw [Bool.and_eq_true] at hj
      have h1 := of_decide_eq_true hj.1
      have h2 := of_decide_eq_true hj.2
      cases e2
      obtain rfl := (r.ext R1 x2).int
      obtain rfl := r2.int
      exact ⟨_, _, rfl, ⟨h1.1, h1.2, h2.1, h2.2⟩, g H2 Ext.refl d2 _ yld_range⟩
    · cases e2
  · cases e2

/-! ### for, while -/
def loopM (g : D → PEnv → Option PEnv) (mb : PEnv → M (Fl × PEnv)) : List D → PEnv → M (Fl × PEnv)
  | [], ρ => pure (.nx, ρ)
  | d :: ds, ρ => lift (g d ρ) >>= fun ρ1 => mb ρ1 >>= fun r => match r.1 with
    | .nx => loopM g mb ds r.2
    | .ct => loopM g mb ds r.2
    | .brk => pure (.nx, r.2)
    | .ret v => pure (.ret v, r.2)
theorem s_for {ns : List Nat} {g : D → PEnv → Option PEnv} {body : List Stmt} {n : PEnv → M (List D)} {mb : PEnv → M (Fl × PEnv)} (c : Ctx X E W k) (hp : PassesOwn (model X.prog X.w) X.A X.env X.xe) (hi : CI X E W tg iter n) (hg : CT1 X E tg ns g) (hb : CB X E W body mb)
    (hs : ∀ x, foldedSetIterable iter X.env x = pure x := by intro _; rfl) : CS X E W (.For tg iter body [] pos) (fun ρ => n ρ >>= fun ds => loopM g mb ds ρ) := by
  obtain ⟨wi, pi, ki⟩ := hi
  obtain ⟨u, q, kg⟩ := hg
  obtain ⟨tb, pb, kb⟩ := hb
  refine ⟨_, ps_for hp c.calm pi q pb hs, fun σ H ρ s M0 A D R dl h => ?_⟩
  refine ki σ H ρ s M0 A _ R dl ((h.expr R).mono fun ds s1 H1 _ x1 d1 h J y => ?_)
  have R1 := R.ext x1 d1
  refine ⟨fun i m σ' H' => m + i = ds.length ∧ ∃ ρ' s' A', ER E M0 A' H' σ' ρ' ∧ DealAt E H' s' ∧ Ext (Chg E A) H1 H' ∧ Sub A H1 A' ∧ SFin E W M0 A H1 (loopM g mb (ds.drop i) ρ' s') D,
    ⟨ds.length, rfl, ρ, s1, A, R1, d1, Ext.refl, Sub.refl, h⟩, ?_⟩
  rintro i m σ' H' ⟨hm, ρ', s', A', R', d', x', u', h'⟩
  obtain ⟨y1, y2⟩ := y H' (x'.mono R1.chg)
  by_cases hl : i < ds.length
  · have ed : ds[i]? = some ds[i] := by simp [hl]
    obtain ⟨go, it⟩ := y1 i _ ed
    rw [List.drop_eq_getElem_cons hl] at h'
    have h' : SFin E W M0 A H1 ((lift (g ds[i] ρ') >>= fun ρ1 => mb ρ1 >>= fun r => match r.1 with
      | .nx => loopM g mb (ds.drop (i + 1)) r.2
      | .ct => loopM g mb (ds.drop (i + 1)) r.2
      | .brk => pure (.nx, r.2)
      | .ret v => pure (.ret v, r.2)) s') D := h'
    obtain ⟨ρ1, eg, h'⟩ := h'.lift
    refine .inr ⟨go, fun σ2 H2 => (m - 1) + (i + 1) = ds.length ∧ ∃ ρ' s' A', ER E M0 A' H2 σ2 ρ' ∧ DealAt E H2 s' ∧ Ext (Chg E A) H1 H2 ∧ Sub A H1 A' ∧ SFin E W M0 A H1 (loopM g mb (ds.drop (i + 1)) ρ' s') D, fun σ2 H2 w => ⟨m - 1, by omega, w⟩, fun x H'' yy => ?_⟩
    obtain ⟨sm, rx⟩ := it x H'' yy
    have d'' : DealAt E H'' s' := ⟨fun o => sm _ _ (d'.p o), fun o => sm _ _ (d'.q o)⟩
    have R'' := R'.ext (Ext.same sm) d''
    have rx' : Rep E (Own M0 A') H'' x ds[i] := rx.mono fun a z => by
      rcases z with z | ⟨j, z⟩
      · exact .inl (.inl z)
      · rcases u' j a z with ⟨l, q⟩ | q
        · exact .inl (.inr ⟨l, q⟩)
        · exact .inr q
    refine kg σ' H'' ρ' ρ1 M0 A' x _ _ R'' rx' eg fun σ3 A3 R3 l3 _ _ => ?_
    have xx : Ext (Chg E A) H1 H'' := x'.trans (Ext.same sm)
    have uu : Sub A H1 A3 := fun j a z => u' j a (l3 j a z)
    refine kb σ3 H'' ρ1 s' M0 A3 _ R3 d'' ?_
    have h3 := SFin.base (H1 := H'') (A1 := A3) h' xx uu R3.mok R3.mp R3.mq
    rw [bind_run] at h'
    cases e3 : mb ρ1 s' with
    | ok r s3 =>
      rw [e3] at h'
      obtain ⟨f, ρ3⟩ := r
      cases f with
      | nx => exact fun σ4 H4 A4 R4 x4 u4 d4 => ⟨by omega, ρ3, s3, A4, R4, d4, xx.chain uu x4, Sub.chain xx R3.mok R3.mp R3.mq uu u4, h'⟩
      | ct => exact fun σ4 H4 A4 R4 x4 u4 d4 => ⟨by omega, ρ3, s3, A4, R4, d4, xx.chain uu x4, Sub.chain xx R3.mok R3.mp R3.mq uu u4, h'⟩
      | brk => exact fun σ4 H4 A4 R4 x4 u4 d4 => h' σ4 H4 A4 R4 (xx.chain uu x4) (Sub.chain xx R3.mok R3.mp R3.mq uu u4) d4
      | ret z => exact fun v H4 x4 d4 m4 r4 => h' v H4 (xx.chain uu x4) d4 m4 r4
    | exc cc l s3 =>
      rw [e3] at h'
      exact fun H4 dct x4 d4 q4 => h' H4 dct (xx.chain uu x4) d4 q4
    | bad => rw [e3] at h'; exact h'
  · have ei : i = ds.length := by omega
    subst ei
    rw [List.drop_length] at h'
    exact .inl ⟨y2, h' σ' H' A' R' x' u' d'⟩
/-- while, with fuel -/
def whileM (mc : PEnv → M Bool) (mb : PEnv → M (Fl × PEnv)) : Nat → PEnv → M (Fl × PEnv)
  | 0, _ => fail
  | n + 1, ρ => mc ρ >>= fun b => if b then (mb ρ >>= fun r => match r.1 with
    | .nx => whileM mc mb n r.2
    | .ct => whileM mc mb n r.2
    | .brk => pure (.nx, r.2)
    | .ret v => pure (.ret v, r.2)) else pure (.nx, ρ)
theorem s_while {body : List Stmt} {mc : PEnv → M Bool} {mb : PEnv → M (Fl × PEnv)} (fuel : PEnv → Nat) (hp : PassesOwn (model X.prog X.w) X.A X.env X.xe) (hc : CT X E W e mc) (hb : CB X E W body mb) : CS X E W (.While e body [] pos) (fun ρ => whileM mc mb (fuel ρ) ρ) := by
  obtain ⟨tc, pc, kc⟩ := hc
  obtain ⟨tb, pb, kb⟩ := hb
  refine ⟨_, ps_while hp pc pb, fun σ H ρ s M0 A D R dl h => ?_⟩
  refine ⟨fun m σ' H' => ∃ ρ' s' A', ER E M0 A' H' σ' ρ' ∧ DealAt E H' s' ∧ Ext (Chg E A) H H' ∧ Sub A H A' ∧ SFin E W M0 A H (whileM mc mb m ρ' s') D, ⟨fuel ρ, ρ, s, A, R, dl, Ext.refl, Sub.refl, h⟩, ?_⟩
  rintro m σ' H' ⟨ρ', s', A', R', d', x', u', h'⟩
  cases m with
  | zero => exact h'.elim
  | succ m =>
    have h1 : SFin E W M0 A' H' ((mc ρ' >>= fun b => if b then (mb ρ' >>= fun r => match r.1 with
      | .nx => whileM mc mb m r.2
      | .ct => whileM mc mb m r.2
      | .brk => pure (.nx, r.2)
      | .ret v => pure (.ret v, r.2)) else pure (.nx, ρ')) s') D := SFin.base (r := whileM mc mb (m + 1) ρ' s') h' x' u' R'.mok R'.mp R'.mq
    refine kc σ' H' ρ' s' M0 A' _ R' d' ((h1.expr R').mono fun b s2 H2 e2 x2 d2 h2 => ?_)
    have R2 := R'.ext x2 d2
    have xx : Ext (Chg E A) H H2 := x'.chain u' (x2.mono fun _ z => .inl z)
    have uu : Sub A H A' := u'
    cases b with
    | false => exact h2 σ' H2 A' R2 Ext.refl Sub.refl d2
    | true =>
      have h5 : SFin E W M0 A H ((mb ρ' >>= fun r => match r.1 with
        | .nx => whileM mc mb m r.2
        | .ct => whileM mc mb m r.2
        | .brk => pure (.nx, r.2)
        | .ret v => pure (.ret v, r.2)) s2) D := by
        have h6 : SFin E W M0 A H ((mc ρ' >>= fun b => if b then (mb ρ' >>= fun r => match r.1 with
          | .nx => whileM mc mb m r.2
          | .ct => whileM mc mb m r.2
          | .brk => pure (.nx, r.2)
          | .ret v => pure (.ret v, r.2)) else pure (.nx, ρ')) s') D := h'
        rw [bind_run, e2] at h6
        exact h6
      show ∃ N : L2.St → Hp → Prop, _
      refine ⟨fun σ4 H4 => ∃ ρ' s' A', ER E M0 A' H4 σ4 ρ' ∧ DealAt E H4 s' ∧ Ext (Chg E A) H H4 ∧ Sub A H A' ∧ SFin E W M0 A H (whileM mc mb m ρ' s') D, fun σ4 H4 w => ⟨m, Nat.lt_succ_self _, w⟩, ?_⟩
      refine kb σ' H2 ρ' s2 M0 A' _ R2 d2 ?_
      rw [bind_run] at h5
      cases e3 : mb ρ' s2 with
      | ok r s3 =>
        rw [e3] at h5
        obtain ⟨f, ρ3⟩ := r
        cases f with
        | nx => exact fun σ4 H4 A4 R4 x4 u4 d4 => ⟨ρ3, s3, A4, R4, d4, xx.chain uu x4, Sub.chain xx R2.mok R2.mp R2.mq uu u4, h5⟩
        | ct => exact fun σ4 H4 A4 R4 x4 u4 d4 => ⟨ρ3, s3, A4, R4, d4, xx.chain uu x4, Sub.chain xx R2.mok R2.mp R2.mq uu u4, h5⟩
        | brk => exact fun σ4 H4 A4 R4 x4 u4 d4 => h5 σ4 H4 A4 R4 (xx.chain uu x4) (Sub.chain xx R2.mok R2.mp R2.mq uu u4) d4
        | ret z => exact fun v H4 x4 d4 m4 r4 => h5 v H4 (xx.chain uu x4) d4 m4 r4
      | exc cc l s3 =>
        rw [e3] at h5
        exact fun H4 dct x4 d4 q4 => h5 H4 dct (xx.chain uu x4) d4 q4
      | bad => rw [e3] at h5; exact h5
end
end PL
end
section
set_option Elab.async false
set_option linter.all false
set_option maxRecDepth 100000
/-! PL8: list comprehensions. -/
namespace PL
open PySem PySem.Spec L2

def noexc {α : Type} (m : M α) : M α := fun s => match m s with
  | .exc _ _ _ => .bad
  | o => o
@[simp] theorem noexc_pure {α : Type} (a : α) : noexc (pure a : M α) = pure a := rfl
theorem Fin.noexc {E : Ev} {W W' : XK} {α : Type} {H : Hp} {m : M α} {s : Dl} {Q : α → Dl → Hp → Prop} (h : Fin E W H (PL.noexc m s) Q) : Fin E W' H (m s) Q := by
  unfold PL.noexc at h
  cases e : m s with
  | ok a s' => rw [e] at h; exact h
  | exc c l s' => rw [e] at h; exact h.elim
  | bad => rw [e] at h; exact h
/-- the names of a block forgotten -/
def wipeE (ρ : PEnv) : List Nat → PEnv
  | [] => ρ
  | v :: vs => (wipeE ρ vs).set v .un
theorem wipe_sub {σ : L2.St} {vs : List Nat} : ∀ {us : List Nat}, (∀ i ∈ us, i ∈ vs) → wipe (wipe σ us) vs = wipe σ vs
  | [], _ => rfl
  | u :: us, h => by
    show wipe ((wipe σ us).set u none) vs = _
    rw [wipe_set_mem (h u (by simp)), wipe_sub fun i hi => h i (by simp [hi])]
theorem noexc_ok {α : Type} {m : M α} {s : Dl} {a : α} {s' : Dl} (h : m s = .ok a s') : noexc m s = .ok a s' := by unfold noexc; rw [h]
theorem noexc_exc {α : Type} {m : M α} {s : Dl} {c : Str} {l : List D} {s' : Dl} (h : m s = .exc c l s') : noexc m s = .bad := by unfold noexc; rw [h]
theorem noexc_bad {α : Type} {m : M α} {s : Dl} (h : m s = .bad) : noexc m s = .bad := by unfold noexc; rw [h]
def compM (g : D → PEnv → Option PEnv) (mt : PEnv → M Bool) (me : PEnv → M D) : List D → PEnv → M (List D)
  | [], _ => pure []
  | d :: ds, ρ => lift (g d ρ) >>= fun ρ1 => noexc (mt ρ1) >>= fun b => (if b then noexc (me ρ1) >>= fun z => pure [z] else pure []) >>= fun z => compM g mt me ds ρ >>= fun l => pure (z ++ l)
/-- the block's names own nothing -/
def ownFree (ρ : PEnv) (own : List Nat) : Bool := own.all fun i => match ρ[i]? with
  | some .un => true
  | some (.im _) => true
  | _ => false
def blkM (own : List Nat) (n : PEnv → M (List D)) (g : D → PEnv → Option PEnv) (mt : PEnv → M Bool) (me : PEnv → M D) : PEnv → M (List D) := fun ρ => n ρ >>= fun ds => lift (if ds.length < sizeLine ∧ ownFree ρ own = true then some () else none) >>= fun _ => compM g mt me ds (wipeE ρ own)

section
variable {E : Ev} {M0 : Addr → Prop} {A : Nat → Option Addr} {H H' : Hp} {σ : L2.St} {ρ : PEnv} {s : Dl}
theorem ER.ownFree (R : ER E M0 A H σ ρ) {own : List Nat} (h : PL.ownFree ρ own = true) : ∀ i ∈ own, A i = none := fun i hi => by
  unfold PL.ownFree at h
  have h1 := List.all_eq_true.mp h i hi
  cases e : ρ[i]? with
  | none => rw [e] at h1; cases h1
  | some y =>
    rw [e] at h1
    have r := R.at_ i y e
    cases y with
    | un => exact r
    | im d => exact r.1
    | mu _ => cases h1
    | md _ _ => cases h1
theorem ER.wiped (R : ER E M0 A H σ ρ) : ∀ vs : List Nat, (∀ i ∈ vs, A i = none) → ER E M0 A H (wipe σ vs) (wipeE ρ vs)
  | [], _ => R
  | v :: vs, h => by
    have R' := (ER.wiped R vs fun i hi => h i (by simp [hi])).setU (i := v) (x := none)
    have e : clr A v = A := by
      funext j
      unfold clr
      split
      · rename_i e; rw [e, h v (by simp)]
      · rfl
    rw [e] at R'
    exact R'
/-- one more address that is left alone -/
theorem ER.more (R : ER E M0 A H σ ρ) {a : Addr} {l : List V} (h0 : H a = none) : ER E (fun b => M0 b ∨ b = a) A (upd H a (.lst l)) σ ρ := by
  have na : ¬ Own M0 A a := fun z => R.mok.tr z h0
  have sub : ∀ b, Own (fun b => M0 b ∨ b = a) A b → Own M0 A b ∨ b = a := fun b z => by
    rcases z with (z | z) | z
    · exact .inl (.inl z)
    · exact .inr z
    · exact .inl (.inr z)
  refine ⟨fun o => .inl (R.mp o), fun o => .inl (R.mq o), fun i b h z => ?_, R.inj, fun b m => ?_, R.len, fun i x h => ?_⟩
  · rcases z with z | z
    · exact R.own i b h z
    · subst z; exact na (.inr ⟨i, h⟩)
  · rcases sub b m with m | m
    · obtain ⟨o, e, w⟩ := R.mok b m
      exact ⟨o, by rw [upd_ne fun z => na (by rw [← z]; exact m)]; exact e, w⟩
    · rw [m]; exact ⟨_, upd_same, trivial⟩
  · have f := (R.at_ i x h).fresh.mono (Mw := fun b => Own M0 A b ∨ b = a) fun b z => z.imp id fun e => by rw [e]; exact h0
    refine SlotAt.mono sub (SlotAt.extS (Mw := fun _ => False) (Ext.laid h0) mokF (fun _ z => z.elim) (fun b hb => ?_) f)
    exact upd_ne fun z => na (by rw [← z]; exact .inr ⟨i, hb⟩)
/-- an address that is left alone is written -/
theorem ER.write0 (R : ER E M0 A H σ ρ) {a : Addr} {o : HO} (ha : M0 a) (w : Wr o) : ER E M0 A (upd H a o) σ ρ := by
  have ea : Ext (fun b => b = a) H (upd H a o) := fun b u e n => by rw [upd_ne n]; exact e
  refine ⟨R.mp, R.mq, R.own, R.inj, fun b m => ?_, R.len, fun j z h => ?_⟩
  · by_cases e : b = a
    · rw [e]; exact ⟨o, upd_same, w⟩
    · obtain ⟨u, e1, w1⟩ := R.mok b m
      exact ⟨u, by rw [upd_ne e]; exact e1, w1⟩
  · refine SlotAt.extS ea (fun b z => by rw [z]; exact R.mok a (.inl ha)) (fun b z => by rw [z]; exact .inl ha) (fun b hb => ?_) (R.at_ j z h)
    exact upd_ne fun q => R.own j b hb (by rw [q]; exact ha)
end

section
variable {X : Cx} {E : Ev} {W : XK} {k : Nat} {e elt tg iter : Expr} {ifs : List Expr} {scope : Scope} {pos : Pos} {n : PEnv → M (List D)} {mt : PEnv → M Bool} {me : PEnv → M D} {g : D → PEnv → Option PEnv} {ns : List Nat}
theorem Ctx.blk (c : Ctx X E W k) (s : Shared) (H : Hp) (cl : List (Str × Addr)) (C : Addr) (fp : List Addr) : Ctx (X.blk s H scope (compEnvC scope cl C X.env) fp) E E0 k := ⟨c.K, c.rm, c.nd, c.calm, passL, c.gd⟩
/-- the tests of a clause -/
def CTs (X : Cx) (E : Ev) (W : XK) (es : List Expr) (m : PEnv → M Bool) : Prop :=
  ∃ t : TT, PTs X es t ∧ ∀ (σ : L2.St) (H : Hp) (ρ : PEnv) (s : Dl) (M0 : Addr → Prop) (A : Nat → Option Addr) (Q : Bool → Hp → Prop), ER E M0 A H σ ρ → DealAt E H s →
    Fin E W H (m ρ s) (fun b _ H' => Q b H') → t σ H Q
theorem q_nil : CTs X E W [] (fun _ => pure true) := ⟨_, pts_nil, fun σ H ρ s M0 A Q R dl h => h.ok dl⟩
theorem q_one (h : CT X E W e mt) : CTs X E W [e] mt := by
  obtain ⟨t, p, k⟩ := h
  exact ⟨_, pts_one p, k⟩
theorem Rep.more {Mv : Addr → Prop} {H : Hp} {a : Addr} {v : V} {d : D} (r : Rep E (fun b => Mv b ∨ H b = none) H v d) (h : H a = none) : Rep E (fun b => Mv b ∨ b = a) H v d := r.mono fun b z => z.imp id fun e => by rw [e]; exact h
theorem comp_core (c : Ctx X E W k) (own : List (Str × Nat)) (hi : CI X E W tg iter n) (ok : blkC X.N X.env.scope scope own = true) (hns : ∀ i ∈ ns, i ∈ own.map (·.2))
    (hg : ∀ (s : Shared) (H : Hp) (C : Addr) (cl : List (Str × Addr)) (fp : List Addr), CT1 (X.blk s H scope (compEnvC scope cl C X.env) fp) E tg ns g)
    (ht : ∀ (s : Shared) (H : Hp) (C : Addr) (cl : List (Str × Addr)) (fp : List Addr), CTs (X.blk s H scope (compEnvC scope cl C X.env) fp) E E0 ifs mt)
    (he : ∀ (s : Shared) (H : Hp) (C : Addr) (cl : List (Str × Addr)) (fp : List Addr), CE (X.blk s H scope (compEnvC scope cl C X.env) fp) E E0 .full elt me) :
    ∃ (wi : TI) (g1 : TG) (tt : TT) (te : TE), PI X tg iter wi ∧ (∀ (s : Shared) (H : Hp) (C : Addr) (cl : List (Str × Addr)) (fp : List Addr), PG (X.blk s H scope (compEnvC scope cl C X.env) fp) tg g1) ∧
      (∀ (s : Shared) (H : Hp) (C : Addr) (cl : List (Str × Addr)) (fp : List Addr), PTs (X.blk s H scope (compEnvC scope cl C X.env) fp) ifs tt) ∧ (∀ (s : Shared) (H : Hp) (C : Addr) (cl : List (Str × Addr)) (fp : List Addr), PE (X.blk s H scope (compEnvC scope cl C X.env) fp) elt te) ∧
      ∀ (σ : L2.St) (H : Hp) (ρ : PEnv) (s : Dl) (M0 : Addr → Prop) (A : Nat → Option Addr) (Q : VK), ER E M0 A H σ ρ → DealAt E H s →
        Fin E W H (blkM (own.map (·.2)) n g mt me ρ s) (fun d _ H' => ∀ a vs, H a = none → H' a = some (.lst vs) → RepA E (fun b => Own M0 A b ∨ b = a) H' vs d → Q (.ref a) H') → tLc wi g1 tt te (own.map (·.2)) σ H Q := by
  obtain ⟨wi, pi, ki⟩ := hi
  -- one reading for all blocks
  have pg : ∀ (s : Shared) (H : Hp) (C : Addr) (cl : List (Str × Addr)) (fp : List Addr), PG (X.blk s H scope (compEnvC scope cl C X.env) fp) tg (fun v σ H' Q => ∀ s H C cl fp, (hg s H C cl fp).choose v σ H' Q) := fun s H C cl fp =>
    ⟨fun pins s' σ H' v u Q I r h => (hg s H C cl fp).choose_spec.1.run pins s' σ H' v u Q I r (h s H C cl fp)⟩
  have pt : ∀ (s : Shared) (H : Hp) (C : Addr) (cl : List (Str × Addr)) (fp : List Addr), PTs (X.blk s H scope (compEnvC scope cl C X.env) fp) ifs (fun σ H' Q => ∀ s H C cl fp, (ht s H C cl fp).choose σ H' Q) := fun s H C cl fp =>
    ⟨fun pins s' σ H' Q I h => (ht s H C cl fp).choose_spec.1.run pins s' σ H' Q I (h s H C cl fp)⟩
  have pe : ∀ (s : Shared) (H : Hp) (C : Addr) (cl : List (Str × Addr)) (fp : List Addr), PE (X.blk s H scope (compEnvC scope cl C X.env) fp) elt (fun σ H' Q => ∀ s H C cl fp, (he s H C cl fp).choose σ H' Q) := fun s H C cl fp =>
    ⟨fun pins s' σ H' Q I h => (he s H C cl fp).choose_spec.1.run pins s' σ H' Q I (h s H C cl fp)⟩
  refine ⟨wi, _, _, _, pi, pg, pt, pe, fun σ H ρ s M0 A Q R dl h => ?_⟩
  unfold blkM at h
  refine ki σ H ρ s M0 A _ R dl (h.bind.mono fun ds s1 H1 _ x1 d1 h J y => ?_)
  have R1 := R.ext x1 d1
  obtain ⟨_, el, h⟩ := h.bind.lift
  have h := h H1 Ext.refl d1
  split at el
  case isFalse => cases el
  rename_i hlen
  obtain ⟨hlen, hfree⟩ := hlen
  intro Dd hD
  have nD : ¬ Dm E Dd := fun z => by
    rcases z with ⟨o, rfl | rfl⟩
    · rw [d1.p o] at hD; cases hD
    · rw [d1.q o] at hD; cases hD
  have hD0 : H Dd = none := was_free x1 d1 hD
  have free := R1.ownFree hfree
  have Rw := R1.wiped (own.map (·.2)) free
  -- the invariant
  refine ⟨fun i m H' => m + i = ds.length ∧ ∃ s' acc accD, H' Dd = some (.lst acc) ∧ RepA E (fun b => Own M0 A b ∨ b = Dd) H' acc accD ∧ accD.length ≤ i ∧ Ext (fun b => Dm E b ∨ b = Dd) (upd H1 Dd (.lst [])) H' ∧ DealAt E H' s' ∧
      ER E (fun b => M0 b ∨ b = Dd) A H' (wipe σ (own.map (·.2))) (wipeE ρ (own.map (·.2))) ∧
      Fin E W H1 ((compM g mt me (ds.drop i) (wipeE ρ (own.map (·.2))) >>= fun l => pure (accD ++ l)) s') (fun d _ H' => ∀ a vs, H a = none → H' a = some (.lst vs) → RepA E (fun b => Own M0 A b ∨ b = a) H' vs d → Q (.ref a) H'),
    ⟨ds.length, rfl, s1, [], [], upd_same, .nil, Nat.le_refl _, Ext.refl, d1.laid hD, Rw.more hD, ?_⟩, ?_⟩
  · have e : (compM g mt me (ds.drop 0) (wipeE ρ (own.map (·.2))) >>= fun l => pure ([] ++ l)) = compM g mt me ds (wipeE ρ (own.map (·.2))) := by
      simp only [List.drop_zero, List.nil_append]
      exact bind_pure' _
    rw [e]
    exact h
  rintro i m H' ⟨hm, s', acc, accD, hacc, racc, hlen', x', d', R', h'⟩
  -- the source stands
  have xsrc : Ext (Own M0 A) H1 H' := fun b o e nn => by
    have nb : b ≠ Dd := fun z => by rw [z, hD] at e; cases e
    exact x' b o (by rw [upd_ne nb]; exact e) fun z => z.elim (fun z => nn (R1.dm b z)) nb
  obtain ⟨y1, y2⟩ := y H' xsrc
  by_cases hl : i < ds.length
  · have ed : ds[i]? = some ds[i] := by simp [hl]
    obtain ⟨go, it⟩ := y1 i _ ed
    rw [List.drop_eq_getElem_cons hl] at h'
    refine .inr ⟨go, fun H2 => (m - 1) + (i + 1) = ds.length ∧ ∃ s' acc accD, H2 Dd = some (.lst acc) ∧ RepA E (fun b => Own M0 A b ∨ b = Dd) H2 acc accD ∧ accD.length ≤ i + 1 ∧ Ext (fun b => Dm E b ∨ b = Dd) (upd H1 Dd (.lst [])) H2 ∧ DealAt E H2 s' ∧
      ER E (fun b => M0 b ∨ b = Dd) A H2 (wipe σ (own.map (·.2))) (wipeE ρ (own.map (·.2))) ∧
      Fin E W H1 ((compM g mt me (ds.drop (i + 1)) (wipeE ρ (own.map (·.2))) >>= fun l => pure (accD ++ l)) s') (fun d _ H' => ∀ a vs, H a = none → H' a = some (.lst vs) → RepA E (fun b => Own M0 A b ∨ b = a) H' vs d → Q (.ref a) H'), fun H2 w => ⟨m - 1, by omega, w⟩, fun x H'' yy => ?_⟩
    obtain ⟨sm, rx⟩ := it x H'' yy
    have d'' : DealAt E H'' s' := ⟨fun o => sm _ _ (d'.p o), fun o => sm _ _ (d'.q o)⟩
    have R'' := R'.ext (Ext.same sm) d''
    have rx' : Rep E (Own (fun b => M0 b ∨ b = Dd) A) H'' x ds[i] := rx.mono fun a z => by
      rcases z with (z | z) | ⟨j, z⟩
      · exact .inl (.inl z)
      · exact .inr (by rw [z]; exact hD)
      · exact .inl (.inr ⟨j, z⟩)
    -- the turn, as an outcome from H''
    have turn : Fin E W H1 ((lift (g ds[i] (wipeE ρ (own.map (·.2)))) >>= fun ρ1 => noexc (mt ρ1) >>= fun b => (if b then noexc (me ρ1) >>= fun z => pure [z] else pure []) >>= fun z => compM g mt me (ds.drop (i + 1)) (wipeE ρ (own.map (·.2))) >>= fun l => pure (accD ++ z ++ l)) s') (fun d _ H' => ∀ a vs, H a = none → H' a = some (.lst vs) → RepA E (fun b => Own M0 A b ∨ b = a) H' vs d → Q (.ref a) H') := by
      have e : ((lift (g ds[i] (wipeE ρ (own.map (·.2)))) >>= fun ρ1 => noexc (mt ρ1) >>= fun b => (if b then noexc (me ρ1) >>= fun z => pure [z] else pure []) >>= fun z => compM g mt me (ds.drop (i + 1)) (wipeE ρ (own.map (·.2))) >>= fun l => pure (accD ++ z ++ l)) : M (List D)) = (compM g mt me (ds[i] :: ds.drop (i + 1)) (wipeE ρ (own.map (·.2))) >>= fun l => pure (accD ++ l)) := by
        simp only [compM, bind_assoc', pure_bind', List.append_assoc]
      rw [e]
      exact h'
    obtain ⟨ρ1, eg, turn⟩ := turn.liftB
    intro s0 H0 C0 cl0 fp0
    refine (hg s0 H0 C0 cl0 fp0).choose_spec.2 _ H'' _ ρ1 _ A x _ _ R'' rx' eg fun σ2 A2 R2 l2 b2 w2 => ?_
    refine ⟨(w2 _ hns).trans (wipe_sub fun _ z => z), fun s0 H0 C0 cl0 fp0 => ?_⟩
    have xx : Ext (fun b => Dm E b ∨ b = Dd) (upd H1 Dd (.lst [])) H'' := x'.trans (Ext.same sm)
    have hacc'' := sm _ _ hacc
    have racc'' : RepA E (fun b => Own M0 A b ∨ b = Dd) H'' acc accD := racc.extS (Mw := fun _ => False) (Ext.same sm) mokF fun _ z => z.elim
    -- what lies between, seen from the block's start
    have nDl : ∀ {H2 H3 : Hp}, Ext (Dm E) H2 H3 → Ext (fun b => Dm E b ∨ b = Dd) H2 H3 := fun x => x.mono fun _ z => .inl z
    have mDl : ∀ {H2 : Hp} {s2 : Dl} {acc : List V}, DealAt E H2 s2 → H2 Dd = some (.lst acc) → MOk (fun b => Dm E b ∨ b = Dd) H2 := fun d e b z => by
      rcases z with ⟨o, z | z⟩ | z
      · rw [z]; exact ⟨_, d.p o, trivial⟩
      · rw [z]; exact ⟨_, d.q o, trivial⟩
      · rw [z]; exact ⟨_, e, trivial⟩
    have mDm : ∀ {H2 : Hp} {s2 : Dl}, DealAt E H2 s2 → MOk (Dm E) H2 := fun d b z => by
      rcases z with ⟨o, z | z⟩
      · rw [z]; exact ⟨_, d.p o, trivial⟩
      · rw [z]; exact ⟨_, d.q o, trivial⟩
    have dmOwn : ∀ b, Dm E b → Own M0 A b ∨ b = Dd := fun b z => .inl (R1.dm b z)
    rw [bind_run] at turn
    refine (ht s0 H0 C0 cl0 fp0).choose_spec.2 _ H'' ρ1 s' _ A2 _ R2 d'' ?_
    cases e1 : mt ρ1 s' with
    | bad => rw [noexc_bad e1] at turn; exact turn.elim
    | exc c l s2 => rw [noexc_exc e1] at turn; exact turn.elim
    | ok b s2 =>
      rw [noexc_ok e1] at turn
      intro H3 x3 d3
      have R3 := R2.ext x3 d3
      have hacc3 := x3 _ _ hacc'' nD
      have racc3 := racc''.extS x3 (mDm d'') dmOwn
      cases b with
      | false =>
        have turn : Fin E W H1 ((compM g mt me (ds.drop (i + 1)) (wipeE ρ (own.map (·.2))) >>= fun l => pure (accD ++ [] ++ l)) s2) (fun d _ H' => ∀ a vs, H a = none → H' a = some (.lst vs) → RepA E (fun b => Own M0 A b ∨ b = a) H' vs d → Q (.ref a) H') := turn
        rw [List.append_nil] at turn
        exact ⟨by omega, s2, acc, accD, hacc3, racc3, by omega, xx.trans (nDl x3), d3, (R'.ext (Ext.same sm) d'').ext x3 d3, turn⟩
      | true =>
        intro s0 H0 C0 cl0 fp0
        have turn : Fin E W H1 ((noexc (me ρ1) >>= fun z => compM g mt me (ds.drop (i + 1)) (wipeE ρ (own.map (·.2))) >>= fun l => pure (accD ++ [z] ++ l)) s2) (fun d _ H' => ∀ a vs, H a = none → H' a = some (.lst vs) → RepA E (fun b => Own M0 A b ∨ b = a) H' vs d → Q (.ref a) H') := by
          have e : ((noexc (me ρ1) >>= fun z => compM g mt me (ds.drop (i + 1)) (wipeE ρ (own.map (·.2))) >>= fun l => pure (accD ++ [z] ++ l)) : M (List D)) = ((noexc (me ρ1) >>= fun z => pure [z]) >>= fun z => compM g mt me (ds.drop (i + 1)) (wipeE ρ (own.map (·.2))) >>= fun l => pure (accD ++ z ++ l)) := by
            simp only [bind_assoc', pure_bind']
          rw [e]
          exact turn
        rw [bind_run] at turn
        refine (he s0 H0 C0 cl0 fp0).choose_spec.2 _ H3 ρ1 s2 _ A2 _ R3 d3 ?_
        cases e2 : me ρ1 s2 with
        | bad => rw [noexc_bad e2] at turn; exact turn.elim
        | exc c l s3 => rw [noexc_exc e2] at turn; exact turn.elim
        | ok z s3 =>
          rw [noexc_ok e2] at turn
          intro H4 x4 d4 v rv
          have hacc4 := x4 _ _ hacc3 nD
          have racc4 := racc3.extS x4 (mDm d3) dmOwn
          have R4 := ((R'.ext (Ext.same sm) d'').ext x3 d3).ext x4 d4
          have rv : Rep E (Own (fun b => M0 b ∨ b = Dd) A2) H4 v z := rv
          -- the item, for the block's owner: it stands apart from all that is owned
          have rv' : Rep E (fun b => Own M0 A b ∨ b = Dd) H4 v z := rv.mono fun b q => by
            rcases q with (q | ⟨j, q⟩) | q
            · exact .inl (.inl q)
            · refine .inr ⟨j, b2 j b q fun hj => ?_⟩
              rw [free j (hns j hj)] at q
              cases q
            · exact .inl (.inr q)
          have ew : Ext (fun b => b = Dd) H4 (upd H4 Dd (.lst (acc ++ [v]))) := fun b u e nn => by rw [upd_ne nn]; exact e
          have mw : MOk (fun b => b = Dd) H4 := fun b z => by rw [z]; exact ⟨_, hacc4, trivial⟩
          refine ⟨acc, hacc4, by have := racc4.length; omega, by omega, s3, acc ++ [v], accD ++ [z], upd_same, (racc4.append (.cons rv' .nil)).extS ew mw (fun b z => .inr z), by rw [List.length_append]; simp; omega, ?_, ?_, R4.write0 (.inr rfl) trivial, turn⟩
          · exact ((xx.trans (nDl x3)).trans (nDl x4)).trans (ew.mono fun b z => .inr z)
          · exact ⟨fun o => by rw [upd_ne fun z => nD ⟨o, .inl z.symm⟩]; exact d4.p o, fun o => by rw [upd_ne fun z => nD ⟨o, .inr z.symm⟩]; exact d4.q o⟩
  · have ei : i = ds.length := by omega
    subst ei
    rw [List.drop_length] at h'
    have xD : Ext (Dm E) H1 H' := fun b o e nn => by
      have nb : b ≠ Dd := fun z => by rw [z, hD] at e; cases e
      exact x' b o (by rw [upd_ne nb]; exact e) fun z => z.elim nn nb
    have h2 : Fin E W H1 ((Pure.pure accD : M (List D)) s') (fun d _ H' => ∀ a vs, H a = none → H' a = some (.lst vs) → RepA E (fun b => Own M0 A b ∨ b = a) H' vs d → Q (.ref a) H') := by
      have e : (compM g mt me [] (wipeE ρ (own.map (·.2))) >>= fun l => pure (accD ++ l)) = (pure accD : M (List D)) := by
        simp only [compM, pure_bind', List.append_nil]
      rw [← e]
      exact h'
    exact .inl ⟨y2, h2 H' xD d' Dd acc hD0 hacc racc⟩
theorem f_comp (c : Ctx X E W k) (own : List (Str × Nat)) (hi : CI X E W tg iter n) (ok : blkC X.N X.env.scope scope own = true) (hns : ∀ i ∈ ns, i ∈ own.map (·.2))
    (hg : ∀ (s : Shared) (H : Hp) (C : Addr) (cl : List (Str × Addr)) (fp : List Addr), CT1 (X.blk s H scope (compEnvC scope cl C X.env) fp) E tg ns g)
    (ht : ∀ (s : Shared) (H : Hp) (C : Addr) (cl : List (Str × Addr)) (fp : List Addr), CTs (X.blk s H scope (compEnvC scope cl C X.env) fp) E E0 ifs mt)
    (he : ∀ (s : Shared) (H : Hp) (C : Addr) (cl : List (Str × Addr)) (fp : List Addr), CE (X.blk s H scope (compEnvC scope cl C X.env) fp) E E0 .full elt me)
    (hs : ∀ x, foldedSetIterable iter X.env x = pure x := by intro _; rfl) : CF X E W (.ListComp elt [⟨tg, iter, ifs, 0⟩] scope pos) (blkM (own.map (·.2)) n g mt me) := by
  obtain ⟨wi, g1, tt, te, pi, pg, pt, pe, k⟩ := comp_core c own hi ok hns hg ht he
  exact ⟨_, pe_lc (own := own) c.calm c.nd pi (blkOk_by ok) pg pt pe hs, k⟩
/-- y = [..], y a plain local name: a datum -/
theorem s_setC (c : Ctx X E W k) (i : Nat) {y : Str} {py spos : Pos} (own : List (Str × Nat)) (hi : CI X E W tg iter n) (ok : blkC X.N X.env.scope scope own = true) (hns : ∀ i ∈ ns, i ∈ own.map (·.2))
    (hg : ∀ (s : Shared) (H : Hp) (C : Addr) (cl : List (Str × Addr)) (fp : List Addr), CT1 (X.blk s H scope (compEnvC scope cl C X.env) fp) E tg ns g)
    (ht : ∀ (s : Shared) (H : Hp) (C : Addr) (cl : List (Str × Addr)) (fp : List Addr), CTs (X.blk s H scope (compEnvC scope cl C X.env) fp) E E0 ifs mt)
    (he : ∀ (s : Shared) (H : Hp) (C : Addr) (cl : List (Str × Addr)) (fp : List Addr), CE (X.blk s H scope (compEnvC scope cl C X.env) fp) E E0 .full elt me)
    (hy : X.N[i]? = some y := by rfl) (hyl : X.env.scope.names.lookup y = some .local := by rfl)
    (hsw : swapsWith (.ListComp elt [⟨tg, iter, ifs, 0⟩] scope pos) (some (.Name y py)) spos.line X.env = pure true := by exact sw_true rfl rfl rfl (by decide +kernel))
    (hs : ∀ x, foldedSetIterable iter X.env x = pure x := by intro _; rfl) : CS X E W (.Assign [.Name y py] (.ListComp elt [⟨tg, iter, ifs, 0⟩] scope pos) spos) (fun ρ => blkM (own.map (·.2)) n g mt me ρ >>= fun l => pure (.nx, ρ.set i (.im (.lst l)))) := by
  obtain ⟨wi, g1, tt, te, pi, pg, pt, pe, kk⟩ := comp_core c own hi ok hns hg ht he
  refine ⟨_, ps_setLc (i := i) (own := own) c.calm c.nd hy hyl hsw pi (blkOk_by ok) pg pt pe hs, fun σ H ρ s M0 A D R dl h => ?_⟩
  refine kk σ H ρ s M0 A _ R dl ((h.expr R).mono fun l s1 H1 _ x1 d1 h a vs h0 h1 r => ?_)
  have R1 := R.ext x1 d1
  exact h _ H1 _ (R1.setI (.lst h1 (not_own R.mok h0) (r.mono fun _ z => .inl z))) Ext.refl (Sub.less fun _ _ z => clr_some z) d1
/-- .. a list that the def may change -/
theorem s_setCM (c : Ctx X E W k) (i : Nat) {y : Str} {py spos : Pos} (own : List (Str × Nat)) (hi : CI X E W tg iter n) (ok : blkC X.N X.env.scope scope own = true) (hns : ∀ i ∈ ns, i ∈ own.map (·.2))
    (hg : ∀ (s : Shared) (H : Hp) (C : Addr) (cl : List (Str × Addr)) (fp : List Addr), CT1 (X.blk s H scope (compEnvC scope cl C X.env) fp) E tg ns g)
    (ht : ∀ (s : Shared) (H : Hp) (C : Addr) (cl : List (Str × Addr)) (fp : List Addr), CTs (X.blk s H scope (compEnvC scope cl C X.env) fp) E E0 ifs mt)
    (he : ∀ (s : Shared) (H : Hp) (C : Addr) (cl : List (Str × Addr)) (fp : List Addr), CE (X.blk s H scope (compEnvC scope cl C X.env) fp) E E0 .full elt me)
    (hy : X.N[i]? = some y := by rfl) (hyl : X.env.scope.names.lookup y = some .local := by rfl)
    (hsw : swapsWith (.ListComp elt [⟨tg, iter, ifs, 0⟩] scope pos) (some (.Name y py)) spos.line X.env = pure true := by exact sw_true rfl rfl rfl (by decide +kernel))
    (hs : ∀ x, foldedSetIterable iter X.env x = pure x := by intro _; rfl) : CS X E W (.Assign [.Name y py] (.ListComp elt [⟨tg, iter, ifs, 0⟩] scope pos) spos) (fun ρ => blkM (own.map (·.2)) n g mt me ρ >>= fun l => pure (.nx, ρ.set i (.mu l))) := by
  obtain ⟨wi, g1, tt, te, pi, pg, pt, pe, kk⟩ := comp_core c own hi ok hns hg ht he
  refine ⟨_, ps_setLc (i := i) (own := own) c.calm c.nd hy hyl hsw pi (blkOk_by ok) pg pt pe hs, fun σ H ρ s M0 A D R dl h => ?_⟩
  refine kk σ H ρ s M0 A _ R dl ?_
  dsimp only at h
  rw [bind_run] at h
  cases e0 : blkM (own.map (·.2)) n g mt me ρ s with
  | ok l s1 =>
    rw [e0] at h
    intro H1 x1 d1 a vs h0 h1 r
    refine h _ H1 _ (R.setM (i := i) x1 d1 h0 h1 r) (x1.mono fun _ z => .inl z) (fun j b z => ?_) d1
    rcases own1_cases z with ⟨_, q⟩ | ⟨_, q⟩
    · rw [q]; exact .inr h0
    · exact .inl ⟨j, q⟩
  | exc cc l s' =>
    rw [e0] at h
    exact fun H' dct x d q => h H' dct (x.mono fun _ z => .inl z) d q
  | bad => rw [e0] at h; exact h
end
end PL
end
section
set_option Elab.async false
set_option linter.all false
set_option maxRecDepth 100000
/-! PL9: defs, their promises, their calls; instances made. -/
namespace PL
open PySem PySem.Spec L2

/-- the promise of a def: it is what F says of plain data -/
def spP (K : PySem.W.Frag) (C : Str → Addr) (np : Nat) (F : List D → M D) : Sp := fun vs H Q W => ∃ (E : Ev) (M0 : Addr → Prop) (s : Dl) (ds : List D), E.K = K ∧ E.C = C ∧ vs.length = np ∧ (E.on = true → M0 E.p) ∧ (E.on = true → M0 E.q) ∧ MOk M0 H ∧ DealAt E H s ∧ RepA E M0 H vs ds ∧
  Fin E W H (F ds s) (fun d _ H' => ∀ v, Rep E M0 H' v d → Q v H')
def runF (N : Nat) (n : PEnv → M (Fl × PEnv)) (ds : List D) : M D := n (ds.map Slot.im ++ List.replicate (N - ds.length) .un) >>= fun r => match r.1 with
  | .ret d => pure d
  | .nx => pure .non
  | _ => fail
theorem at_start {E : Ev} {M0 : Addr → Prop} {H : Hp} : ∀ {vs : List V} {ds : List D} {r : Nat} (i : Nat) (x : Slot), RepA E M0 H vs ds → (ds.map Slot.im ++ List.replicate r .un)[i]? = some x → SlotAt E M0 H none ((vs.map some ++ List.replicate r none)[i]?) x
  | [], _, r, i, x, .nil, h => by
    simp only [List.map_nil, List.nil_append] at h ⊢
    rw [List.getElem?_replicate] at h
    split at h
    · cases h
      rfl
    · cases h
  | v :: vs, d :: ds, r, 0, x, .cons q t, h => by
    simp only [List.map_cons, List.cons_append, List.getElem?_cons_zero, Option.some.injEq] at h
    subst h
    exact ⟨rfl, v, rfl, q⟩
  | v :: vs, d :: ds, r, i + 1, x, .cons q t, h => by
    simp only [List.map_cons, List.cons_append, List.getElem?_cons_succ] at h ⊢
    exact at_start i x t h
theorem own_none {M0 : Addr → Prop} : Own M0 (fun _ => none) = M0 := by
  funext a
  unfold Own
  simp
theorem ER.start {E : Ev} {M0 : Addr → Prop} {H : Hp} {vs : List V} {ds : List D} {N : List Str} (mp : E.on = true → M0 E.p) (mq : E.on = true → M0 E.q) (mo : MOk M0 H) (r : RepA E M0 H vs ds) : ER E M0 (fun _ => none) H (start N vs) (ds.map Slot.im ++ List.replicate (N.length - ds.length) .un) := by
  refine ⟨mp, mq, fun i a h => (nomatch h), fun i j a h => (nomatch h), by rw [own_none]; exact mo, ?_, fun i x h => ?_⟩
  · unfold L2.start
    simp [r.length]
  · rw [own_none]
    unfold L2.start
    rw [r.length]
    exact at_start i x r h
section
variable {P : Program} {w : World} {K : PySem.W.Frag} {mg : Str → Option Value} {base : Heap} {C : Str → Addr}
/-- a def that keeps its promise wherever it is called, but within a repr -/
structure GOk (P : Program) (w : World) (K : PySem.W.Frag) (mg : Str → Option Value) (base : Heap) (k : Nat) (f : Addr) (fd : FuncData) (ps : List Str) (sp : Sp) : Prop where
  len : ∀ vs H Q W, sp vs H Q W → vs.length = ps.length
  go : ∀ (A : Around) (st : List Env) (s : Shared) (H : Hp) (as : Args) (us : List Value) (vs : List V) (Q : VK) (W : XK), A.guards = some [] → Room k A → Env0 P w K mg base A st s H → BindsTo s fd as (ps.zip us) → Vals vs us → sp vs H Q W → codeAny (model P w) A (.call (.ref f) as) (CR (L2.CX P w) st P w H s Q W) s
theorem GOk.mono {j k : Nat} {f : Addr} {fd : FuncData} {ps : List Str} {sp : Sp} (G : GOk P w K mg base j f fd ps sp) (h : j ≤ k) : GOk P w K mg base k f fd ps sp :=
  ⟨G.len, fun A st s H as us vs Q W g r => G.go A st s H as us vs Q W g (r.mono h)⟩
theorem gok_of {x qual : Str} {params : Arguments} {body : List Stmt} {scope : Scope} {f : Addr} {fd : FuncData} {N ps : List Str} {k : Nat} {sp : Sp} (F : FunD K x qual params body scope [] [] f fd) (S : FnScope N ps scope)
    (len : ∀ vs H Q W, sp vs H Q W → vs.length = ps.length)
    (hb : ∀ (cdv : Value) (A : Around) (st : List Env) (s : Shared) (H : Hp) (vs : List V) (Q : VK) (W : XK), A.guards = some [] → Room k (A.deeper (PyProof.Rows.envOfC qual scope s.heap.objs.size f cdv)) → sp vs H Q W →
      ∃ t, PSs (cxOf (L2.CX P w) P w K mg base N qual scope f cdv A st s H W) body t ∧ t { nx := fun _ H' => Q .non H', rt := Q } (start N vs) H) : GOk P w K mg base (k + 1) f fd ps sp := by
  obtain ⟨oc, od, dV, kV, doc, pm, an, cdv, ct, osl, rfl, lk, hcd, _, _⟩ := F.ex
  refine ⟨len, ?_⟩
  intro A st s H as us vs Q W hg hr e0 bnd r h
  obtain ⟨t, ht, hq⟩ := hb cdv A st s H vs Q W hg (hr.deeper _) h
  have kin : K.In s.heap := e0.mod.kin.keeps fun b o e => (e0.bs b o e).1
  have nol : s.heap.NoLimit := e0.mod.nolimit.keeps fun b o e => (e0.bs b o e).1
  refine PySem.codeAny_call_function hr.depth (kin _ _ lk) rfl S.co S.gen rfl (PySem.W.codeRec_of kin hcd) (bnd _ _ _ _ ?_)
  refine PySem.wpAny_newFunctionEnv_cells S.kind ?_ fun env he s1 x => ?_
  · rintro ⟨n, v⟩ hy
    rcases S.par n (List.of_mem_zip hy).1 with q | q
    · exact .inl q
    · exact .inr ⟨q, PySem.W.cellsFrom_some _ _ _ (.inl q)⟩
  subst he
  refine ⟨nol.keeps x.toInCall.keep, codeAny_func ?_⟩
  have J0 := inv_start (CX := L2.CX P w) (E := W) (N := N) (cd := cdv) (f := f) (qual := qual) S hr.hd e0 (len _ _ _ _ h) r x
  refine wpAny_mono (ht.run [] s1 (start N vs) H _ J0 hq) ?_ (fun _ _ z => z)
  intro fl s' z
  cases fl with
  | next =>
    obtain ⟨σ', H', J, q⟩ := z
    exact ⟨.non, H', J.os, J.bare, J.base, J.hok, rfl, q⟩
  | ret u =>
    obtain ⟨v, σ', H', J, rv, q⟩ := z
    exact ⟨v, H', J.os, J.bare, J.base, J.hok, rv, q⟩
  | brk => exact (let ⟨_, _, _, q⟩ := z; q.elim)
  | cont => exact (let ⟨_, _, _, q⟩ := z; q.elim)
/-- a def of the module's, by its name -/
structure Fn (P : Program) (w : World) (K : PySem.W.Frag) (mg : Str → Option Value) (base : Heap) (C : Str → Addr) (d : He.DefD) (ps : List Str) (k : Nat) (F : List D → M D) : Prop where
  ex : ∃ f fd, FunD K d.name d.qual d.params d.body d.scope [] [] f fd ∧ mg d.name = some (.ref f) ∧ Binds K fd ps [] ∧ GOk P w K mg base k f fd ps (spP K C ps.length F)
theorem ok_def {d : He.DefD} {f : Addr} {fd : FuncData} {N ps : List Str} {k : Nat} {n : PEnv → M (Fl × PEnv)} (F : FunD K d.name d.qual d.params d.body d.scope [] [] f fd) (S : FnScope N ps d.scope)
    (hb : ∀ (E : Ev), E.K = K → E.C = C → ∀ (cdv : Value) (A : Around) (st : List Env) (s : Shared) (H : Hp) (W : XK), Ctx (cxOf (L2.CX P w) P w K mg base N d.qual d.scope f cdv A st s H W) E W k →
      PassesOwn (model P w) (A.deeper (PyProof.Rows.envOfC d.qual d.scope s.heap.objs.size f cdv)) (PyProof.Rows.envOfC d.qual d.scope s.heap.objs.size f cdv) (cxOf (L2.CX P w) P w K mg base N d.qual d.scope f cdv A st s H W).xe →
      CB (cxOf (L2.CX P w) P w K mg base N d.qual d.scope f cdv A st s H W) E W d.body n) :
    GOk P w K mg base (k + 1) f fd ps (spP K C ps.length (runF N.length n)) := by
  refine gok_of F S (fun vs H Q W h => ?_) (fun cdv A st s H vs Q W hg hr h => ?_)
  · obtain ⟨E, M0, s, ds, _, _, hl, _⟩ := h
    exact hl
  · obtain ⟨E, M0, sd, ds, hK, hC, hl, mp, mq, mo, dl, r, h⟩ := h
    have cc : Ctx (cxOf (L2.CX P w) P w K mg base N d.qual d.scope f cdv A st s H W) E W k := by
      refine ⟨hK, hr, S.nd, rfl, ?_, hg⟩
      exact passes_call (takes_of rfl rfl rfl rfl) fun _ _ _ _ h => h
    obtain ⟨t, p, kk⟩ := hb E hK hC cdv A st s H W cc (passes_of (X := cxOf (L2.CX P w) P w K mg base N d.qual d.scope f cdv A st s H W) rfl)
    refine ⟨t, p, kk _ H _ sd M0 (fun _ => none) _ (ER.start mp mq mo r) dl ?_⟩
    unfold runF at h
    rw [bind_run] at h
    have xd : ∀ {H' : Hp}, Ext (Chg E fun _ => none) H H' → Ext (Dm E) H H' := fun x => x.mono fun b z => z.elim id fun ⟨_, z⟩ => nomatch z
    cases e0 : n (ds.map Slot.im ++ List.replicate (N.length - ds.length) .un) sd with
    | ok r' s' =>
      rw [e0] at h
      obtain ⟨fl, ρ'⟩ := r'
      cases fl with
      | nx => exact fun σ' H' A' R x u d => h H' (xd x) d _ .non
      | ret z => exact fun v H' x d m r => h H' (xd x) d v r
      | brk => exact h.elim
      | ct => exact h.elim
    | exc c l s' =>
      rw [e0] at h
      exact fun H' dct x d q => h H' dct (xd x) d q
    | bad => rw [e0] at h; exact h
end

section
variable {X : Cx} {E : Ev} {W : XK} {lv : Lv} {k j np : Nat} {f : Addr} {fd : FuncData} {ps : List Str} {F : List D → M D} {x : Str} {p pos : Pos} {e : Expr} {es : List Expr} {n : PEnv → M (List D)}
/-- the callee's run -/
theorem run_g {sp : Sp} {pins : List (Addr × Obj)} {σ : L2.St} {H : Hp} {s : Shared} {Q : VK} {as : Args} {us : List Value} {vs : List V} (G : GOk X.prog X.w X.K X.mg X.base j f fd ps sp) (hg : X.A.guards = some []) (hr : Room j X.A) (hx : Passes (L2.CX X.prog X.w) X W)
    (I : Inv X pins σ H s) (hb : BindsTo s fd as (ps.zip us)) (r : Vals vs us) (h : sp vs H Q W) : wpAny (model X.prog X.w) X.A (call (.ref f) as.pos as.kw) (EP X pins σ Q) X.xe s := by
  refine wpAny_call (codeAny_mono (G.go X.A X.stack s H as us vs Q W hg hr I.env0 hb r h) ?_)
  intro z s' hq
  match z, hq with
  | .error e, hq => exact hx pins σ H s e s' I hq
  | .ok (.ret u), hq => exact I.after hq
  | .ok .next, hq => exact hq.elim
  | .ok .brk, hq => exact hq.elim
  | .ok .cont, hq => exact hq.elim
/-- a call of a def of one's own -/
def callM (np : Nat) (F : List D → M D) (ds : List D) : M D := lift (if ds.length = np then some () else none) >>= fun _ => F ds
theorem pe_callG {d : He.DefD} {t : TA} (gr : X.A.guards = some []) (hr : Room k X.A) (hx : Passes (L2.CX X.prog X.w) X W) (G : Fn X.prog X.w X.K X.mg X.base E.C d ps j F) (hj : j ≤ k) (hn : d.name = x) (ha : PA X (e :: es) t)
    (hg : Gl X x) (hdb : (x == ("__debug__" : Str)) = false) (he : starEach (e :: es) X.env = (false, eval e X.env) :: starEach es X.env) (hpl : (backTo pos (starEach es X.env)).any (·.1) = false) :
    PE X (.Call (.Name x p) (e :: es) [] pos) (tCall (spP X.K E.C ps.length F) [] W t) := by
  obtain ⟨f, fd, D, hm, hb, G⟩ := G.ex
  subst hn
  refine ⟨fun pins s σ H Q I h => wpAny_Call_Name_kw (ld_glob I hg hm ?_ hdb)⟩
  refine PySem.W.callWith_K (h₀ := X.base) I.ok.mod.kin D.kp (thn (ha.run pos pins s σ H _ I h) ?_) he hpl
  rintro us s1 ⟨vs, H1, I1, r, q⟩
  have q : spP X.K E.C ps.length F (vs ++ []) H1 Q W := q
  rw [List.append_nil] at q
  have hl : us.length = ps.length := by rw [← r.length]; exact G.len _ _ _ _ q
  have hb2 := hb s1 us I1.kIn (by rw [List.append_nil]; exact hl)
  rw [List.append_nil] at hb2
  exact ⟨I1.kIn, run_g (as := ⟨us, []⟩) G gr (hr.mono hj) hx I1 hb2 r q⟩
theorem call_go (c : Ctx X E W k) {t : TA} {σ : L2.St} {H : Hp} {ρ : PEnv} {s : Dl} {M0 : Addr → Prop} {A : Nat → Option Addr} {Q : VK}
    (kk : ∀ (σ : L2.St) (H : Hp) (ρ : PEnv) (s : Dl) (M0 : Addr → Prop) (A : Nat → Option Addr) (Q : List V → Hp → Prop), ER E M0 A H σ ρ → DealAt E H s → Fin E W H (n ρ s) (fun ds _ H' => ∀ vs, Paired (RepL E M0 A H' .full) vs ds → Q vs H') → t σ H Q)
    (R : ER E M0 A H σ ρ) (dl : DealAt E H s) (h : Fin E W H ((n ρ >>= callM np F) s) (fun d _ H' => ∀ v, RepL E M0 A H' .full v d → Q v H')) : tCall (spP X.K E.C np F) [] W t σ H Q := by
  refine kk σ H ρ s M0 A _ R dl (h.bind.mono fun ds s1 H1 _ x1 d1 h vs rs => ?_)
  have R1 := R.ext x1 d1
  have ra := pairedA rs
  unfold callM at h
  obtain ⟨_, el, h⟩ := h.liftB
  split at el
  · rename_i hl
    rw [List.append_nil]
    exact ⟨E, Own M0 A, s1, ds, c.K, rfl, by rw [ra.length]; exact hl, fun o => .inl (R.mp o), fun o => .inl (R.mq o), R1.mok, d1, ra, h⟩
  · cases el
theorem c_call {d : He.DefD} (c : Ctx X E W k) (G : Fn X.prog X.w X.K X.mg X.base E.C d ps j F) (ha : CA X E W .full (e :: es) n) (hj : j ≤ k := by decide) (hn : d.name = x := by rfl)
    (hg : Gl X x := by rfl) (hdb : (x == ("__debug__" : Str)) = false := by decide) (he : starEach (e :: es) X.env = (false, eval e X.env) :: starEach es X.env := by rfl) (hpl : (backTo pos (starEach es X.env)).any (·.1) = false := by rfl) :
    CE X E W lv (.Call (.Name x p) (e :: es) [] pos) (fun ρ => n ρ >>= callM ps.length F) := by
  refine CE.any ?_
  obtain ⟨t, pp, kk⟩ := ha
  exact ⟨_, pe_callG c.gd c.rm c.ps G hj hn pp hg hdb he hpl, fun σ H ρ s M0 A Q R dl h => call_go c kk R dl h⟩
/-! ### keywords alone -/
def gP {α : Type} (pm : List Nat) (l : List α) : List α := pm.filterMap fun i => l[i]?
theorem gP_rel {α β : Type} {R : α → β → Prop} {as : List α} {bs : List β} (h : Paired R as bs) : ∀ pm : List Nat, Paired R (gP pm as) (gP pm bs)
  | [] => .nil
  | i :: pm => by
    have ih := gP_rel h pm
    have key : (as[i]? = none ∧ bs[i]? = none) ∨ ∃ a b, as[i]? = some a ∧ bs[i]? = some b ∧ R a b := by
      clear ih
      induction h generalizing i with
      | nil => exact .inl ⟨by simp, by simp⟩
      | cons r t ih =>
        cases i with
        | zero => exact .inr ⟨_, _, rfl, rfl, r⟩
        | succ i => simpa using ih i
    unfold gP at ih ⊢
    rcases key with ⟨e1, e2⟩ | ⟨a, b, e1, e2, r⟩
    · rw [List.filterMap_cons, List.filterMap_cons, e1, e2]
      exact ih
    · rw [List.filterMap_cons, List.filterMap_cons, e1, e2]
      exact .cons r ih
def CK (X : Cx) (E : Ev) (W : XK) (kws : List Keyword) (m : PEnv → M (List D)) : Prop :=
  ∃ t : TA, PK X kws t ∧ ∀ (σ : L2.St) (H : Hp) (ρ : PEnv) (s : Dl) (M0 : Addr → Prop) (A : Nat → Option Addr) (Q : List V → Hp → Prop), ER E M0 A H σ ρ → DealAt E H s →
    Fin E W H (m ρ s) (fun ds _ H' => ∀ vs, Paired (RepL E M0 A H' .full) vs ds → Q vs H') → t σ H Q
theorem k_nil : CK X E W [] (fun _ => pure []) := ⟨_, pk_nil, fun σ H ρ s M0 A Q R dl h => h.ok dl _ .nil⟩
theorem k_cons {nm : Option Str} {kpos : Pos} {kws : List Keyword} {m : PEnv → M D} (h1 : CE X E W .full e m) (h2 : CK X E W kws n) : CK X E W (⟨nm, e, kpos⟩ :: kws) (fun ρ => m ρ >>= fun d => n ρ >>= fun l => pure (d :: l)) := by
  obtain ⟨t, p, k⟩ := h1
  obtain ⟨t2, p2, k2⟩ := h2
  refine ⟨_, pk_cons p p2, fun σ H ρ s M0 A Q R dl h => ?_⟩
  refine k σ H ρ s M0 A _ R dl (h.bind.mono fun d s1 H1 _ x1 d1 h v r => ?_)
  have R1 := R.ext x1 d1
  refine k2 σ H1 ρ s1 M0 A _ R1 d1 (h.bind.mono fun ds s2 H2 _ x2 d2 h vs rs => ?_)
  exact h.ok d2 _ (.cons (RepL.ext R1 x2 r) rs)
def tCallP (sp : Sp) (nk : Nat) (pm : List Nat) (W : XK) (t : TA) : TE := fun σ H Q => t σ H fun vs H1 => vs.length = nk ∧ sp (gP pm vs) H1 Q W
theorem pe_callW {d : He.DefD} {t : TA} {ks : List Str} {kws : List Keyword} {pm : List Nat} (gr : X.A.guards = some []) (hr : Room k X.A) (hx : Passes (L2.CX X.prog X.w) X W) (G : Fn X.prog X.w X.K X.mg X.base E.C d ps j F) (hj : j ≤ k) (hn : d.name = x) (ha : PK X kws t)
    (hb : ∀ (kV doc pmv : Value) (an : Option Addr) (cdv ct : Value) (ws : List Value), ws.length = ks.length → bindArgs (PySem.W.fnOf d.name d.qual d.params d.body d.scope .none kV doc pmv an cdv ct) ⟨[], ks.zip ws⟩ = pure (ps.zip (gP pm ws)))
    (hall : (backToKw pos (keywordEach kws X.env)).all (·.1.isSome) = true) (hks : (backToKw pos (keywordEach kws X.env)).filterMap (·.1) = ks) (hg : Gl X x) (hdb : (x == ("__debug__" : Str)) = false)
    (hpl : ((backTo pos (starEach [] X.env)).any (·.1) || (backToKw pos (keywordEach kws X.env)).any (·.1.isNone)) = false) :
    PE X (.Call (.Name x p) [] kws pos) (tCallP (spP X.K E.C ps.length F) ks.length pm W t) := by
  obtain ⟨f, fd, D, hm, _, G⟩ := G.ex
  subst hn
  refine ⟨fun pins s σ H Q I h => wpAny_Call_Name_kw (ld_glob I hg hm ?_ hdb)⟩
  refine PySem.W.callWith_KW0 (h₀ := X.base) I.ok.mod.kin D.kp hall (thn (ha.run pos pins s σ H _ I h) ?_) hpl
  rintro ws s1 ⟨vs, H1, I1, r, hl, q⟩
  refine ⟨I1.kIn, ?_⟩
  rw [hks]
  have hl2 : ws.length = ks.length := by rw [← r.length]; exact hl
  refine run_g (as := ⟨[], ks.zip ws⟩) (us := gP pm ws) G gr (hr.mono hj) hx I1 ?_ (gP_rel r pm) q
  obtain ⟨oc, od, dV, kV, doc, pmv, an, cdv, ct, osl, rfl, lk, hcd, hD, hK⟩ := D.ex
  rcases hD with ⟨_, rfl⟩ | ⟨e, _⟩
  · exact .of_eq (hb kV doc pmv an cdv ct ws hl2)
  · exact absurd rfl e
theorem c_callW {d : He.DefD} {ks : List Str} {kws : List Keyword} (pm : List Nat) (c : Ctx X E W k) (G : Fn X.prog X.w X.K X.mg X.base E.C d ps j F) (ha : CK X E W kws n)
    (hb : ∀ (kV doc pmv : Value) (an : Option Addr) (cdv ct : Value) (ws : List Value), ws.length = ks.length → bindArgs (PySem.W.fnOf d.name d.qual d.params d.body d.scope .none kV doc pmv an cdv ct) ⟨[], ks.zip ws⟩ = pure (ps.zip (gP pm ws)))
    (hj : j ≤ k := by decide) (hn : d.name = x := by rfl)
    (hall : (backToKw pos (keywordEach kws X.env)).all (·.1.isSome) = true := by rfl) (hks : (backToKw pos (keywordEach kws X.env)).filterMap (·.1) = ks := by rfl) (hg : Gl X x := by rfl) (hdb : (x == ("__debug__" : Str)) = false := by decide)
    (hpl : ((backTo pos (starEach [] X.env)).any (·.1) || (backToKw pos (keywordEach kws X.env)).any (·.1.isNone)) = false := by rfl) :
    CE X E W lv (.Call (.Name x p) [] kws pos) (fun ρ => n ρ >>= fun l => lift (if l.length = ks.length then some () else none) >>= fun _ => callM ps.length F (gP pm l)) := by
  refine CE.any ?_
  obtain ⟨t, pp, kk⟩ := ha
  refine ⟨_, pe_callW c.gd c.rm c.ps G hj hn pp hb hall hks hg hdb hpl, fun σ H ρ s M0 A Q R dl h => ?_⟩
  refine kk σ H ρ s M0 A _ R dl (h.bind.mono fun ds s1 H1 _ x1 d1 h vs rs => ?_)
  have R1 := R.ext x1 d1
  have ra := pairedA (gP_rel rs pm)
  obtain ⟨_, el0, h⟩ := h.liftB
  have hl0 : vs.length = ks.length := by
    have e0 := rs.length
    split at el0
    · omega
    · cases el0
  refine ⟨hl0, ?_⟩
  unfold callM at h
  obtain ⟨_, el, h⟩ := h.liftB
  split at el
  · rename_i hl
    exact ⟨E, Own M0 A, s1, gP pm ds, c.K, rfl, by rw [ra.length]; exact hl, fun o => .inl (R.mp o), fun o => .inl (R.mq o), R1.mok, d1, ra, h⟩
  · cases el
end
end PL
end
section
set_option Elab.async false
set_option linter.all false
set_option maxRecDepth 100000
/-! PL10: several stores at once; owners given up; dicts. -/
namespace PL
open PySem PySem.Spec L2

/-- what may be stored at a name: a datum, a list or a dict just made -/
def StAt (E : Ev) (M0 : Addr → Prop) (A : Nat → Option Addr) (H H' : Hp) (v : V) : Slot → Prop
  | .un => False
  | .im d => Rep E (Own M0 A) H' v d
  | .mu l => ∃ a vs, v = .ref a ∧ H a = none ∧ H' a = some (.lst vs) ∧ RepA E (fun b => Own M0 A b ∨ b = a) H' vs l
  | .md t l => ∃ a, v = .ref a ∧ H a = none ∧ DicAt E (fun b => Own M0 A b ∨ b = a) H' a t l
def CV (X : Cx) (E : Ev) (W : XK) (e : Expr) (m : PEnv → M Slot) : Prop :=
  ∃ t : TE, PE X e t ∧ ∀ (σ : L2.St) (H : Hp) (ρ : PEnv) (s : Dl) (M0 : Addr → Prop) (A : Nat → Option Addr) (Q : VK), ER E M0 A H σ ρ → DealAt E H s →
    Fin E W H (m ρ s) (fun y _ H' => ∀ v, StAt E M0 A H H' v y → Q v H') → t σ H Q
section
variable {X : Cx} {E : Ev} {W : XK} {lv : Lv} {k : Nat} {e e1 e2 : Expr} {es : List Expr} {x : Str} {pos p : Pos} {m m1 m2 : PEnv → M D} {n : PEnv → M (List D)}
theorem CE.cv (h : CE X E W .full e m) : CV X E W e (fun ρ => m ρ >>= fun d => pure (.im d)) := by
  obtain ⟨t, p, k⟩ := h
  refine ⟨t, p, fun σ H ρ s M0 A Q R dl h => ?_⟩
  exact k σ H ρ s M0 A Q R dl (h.bind.mono fun d s1 H1 _ x1 d1 h v r => h.ok d1 v r)
theorem CF.cv (h : CF X E W e n) : CV X E W e (fun ρ => n ρ >>= fun l => pure (.mu l)) := by
  obtain ⟨t, p, k⟩ := h
  refine ⟨t, p, fun σ H ρ s M0 A Q R dl h => ?_⟩
  refine k σ H ρ s M0 A Q R dl ?_
  dsimp only at h
  rw [bind_run] at h
  cases e0 : n ρ s with
  | ok l s1 =>
    rw [e0] at h
    exact fun H1 x1 d1 a vs h0 h1 r => h H1 x1 d1 _ ⟨a, vs, rfl, h0, h1, r⟩
  | exc c l s1 => rw [e0] at h; exact h
  | bad => rw [e0] at h; exact h
theorem CD.cv {t : Bool} {n : PEnv → M (List (D × D))} (h : CD X E W e t n) : CV X E W e (fun ρ => n ρ >>= fun l => pure (.md t l)) := by
  obtain ⟨t, p, k⟩ := h
  refine ⟨t, p, fun σ H ρ s M0 A Q R dl h => ?_⟩
  refine k σ H ρ s M0 A Q R dl ?_
  dsimp only at h
  rw [bind_run] at h
  cases e0 : n ρ s with
  | ok l s1 =>
    rw [e0] at h
    exact fun H1 x1 d1 a h0 h1 => h H1 x1 d1 _ ⟨a, rfl, h0, h1⟩
  | exc c l s1 => rw [e0] at h; exact h
  | bad => rw [e0] at h; exact h
theorem StAt.less {M0 M1 : Addr → Prop} {A A1 : Nat → Option Addr} {H H' : Hp} {v : V} {y : Slot} (sub : ∀ b, Own M0 A b → Own M1 A1 b) (h : StAt E M1 A1 H H' v y) : StAt E M0 A H H' v y := by
  cases y with
  | un => exact h
  | im d => exact Rep.mono sub h
  | mu l =>
    obtain ⟨a, vs, h1, h2, h3, h4⟩ := h
    exact ⟨a, vs, h1, h2, h3, h4.mono fun b z => z.imp (sub b) id⟩
  | md t l =>
    obtain ⟨a, h1, h2, h3⟩ := h
    refine ⟨a, h1, h2, ?_⟩
    cases h3 with
    | k e1 e2 e3 => exact .k e1 e2 (e3.mono fun b z => z.imp (sub b) id)
    | t e1 e2 e3 => exact .t e1 e2 (e3.mono fun b z => z.imp (sub b) id)
/-- some new addresses more that are left alone -/
theorem ER.moreA {M0 N0 : Addr → Prop} {A : Nat → Option Addr} {H H' : Hp} {σ : L2.St} {ρ : PEnv} {s : Dl} (R : ER E M0 A H σ ρ) (x : Ext (Dm E) H H') (d : DealAt E H' s) (hn : ∀ b, N0 b → H b = none ∧ ∃ o, H' b = some o ∧ Wr o) : ER E (fun b => M0 b ∨ N0 b) A H' σ ρ := by
  have R1 := R.ext x d
  have sub : ∀ b, Own (fun b => M0 b ∨ N0 b) A b → Own M0 A b ∨ N0 b := fun b z => by
    rcases z with (z | z) | z
    · exact .inl (.inl z)
    · exact .inr z
    · exact .inl (.inr z)
  refine ⟨fun o => .inl (R.mp o), fun o => .inl (R.mq o), fun i b h z => ?_, R.inj, fun b m => ?_, R.len, fun i x' h => ?_⟩
  · rcases z with z | z
    · exact R.own i b h z
    · exact R.mok.tr (.inr ⟨i, h⟩) (hn b z).1
  · rcases sub b m with m | m
    · exact R1.mok b m
    · exact (hn b m).2
  · have f := (R.at_ i x' h).fresh.mono (Mw := fun b => Own M0 A b ∨ N0 b) fun b z => z.imp id fun e => (hn b e).1
    have mdm : MOk (Dm E) H := fun b z => R.mok b (R.dm b z)
    refine SlotAt.mono sub (SlotAt.extS x mdm (fun b z => .inl (R.dm b z)) (fun b hb => ?_) f)
    obtain ⟨o, e1, _⟩ := R.mok b (.inr ⟨i, hb⟩)
    rw [e1]
    exact x b o e1 (R.ndm hb)
/-- one thing more is stored: x known at H, made by H' -/
theorem ER.setS {M0 : Addr → Prop} {A A' : Nat → Option Addr} {H H' : Hp} {σ' : L2.St} {ρ' : PEnv} {s : Dl} (R : ER E M0 A' H σ' ρ') (le : ∀ i a, A' i = some a → A i = some a) (x : Ext (Dm E) H H') (d : DealAt E H' s) (i : Nat) {v : V} {y : Slot} (st : StAt E M0 A H H' v y) :
    ∃ A2, ER E M0 A2 H' (σ'.set i (some v)) (ρ'.set i y) ∧ Sub A H A2 ∧ (∀ j a, A2 j = some a → j ≠ i → A' j = some a) ∧ ∀ a, A2 i = some a → H a = none := by
  have sub : ∀ b, Own M0 A' b → Own M0 A b := Own.less le
  cases y with
  | un => exact st.elim
  | im z => exact ⟨_, (R.ext x d).setI (Rep.mono sub st), fun j a h => .inl ⟨j, le j a (clr_some h)⟩, fun j a h _ => clr_some h, fun a h => by simp [clr] at h⟩
  | mu l =>
    obtain ⟨a, vs, rfl, h0, h1, r⟩ := st
    refine ⟨_, R.setM (i := i) x d h0 h1 (r.mono fun b z => z.imp (sub b) id), fun j b h => ?_, fun j b h hn => ?_, fun b h => by simp [own1] at h; rw [← h]; exact h0⟩
    · rcases own1_cases h with ⟨_, q⟩ | ⟨_, q⟩
      · rw [q]; exact .inr h0
      · exact .inl ⟨j, le j b q⟩
    · rcases own1_cases h with ⟨q, _⟩ | ⟨_, q⟩
      · exact absurd q hn
      · exact q
  | md t l =>
    obtain ⟨a, rfl, h0, h1⟩ := st
    have h1' : DicAt E (fun b => Own M0 A' b ∨ b = a) H' a t l := by
      cases h1 with
      | k e1 e2 e3 => exact .k e1 e2 (e3.mono fun b z => z.imp (sub b) id)
      | t e1 e2 e3 => exact .t e1 e2 (e3.mono fun b z => z.imp (sub b) id)
    refine ⟨_, R.setD (i := i) x d h0 h1', fun j b h => ?_, fun j b h hn => ?_, fun b h => by simp [own1] at h; rw [← h]; exact h0⟩
    · rcases own1_cases h with ⟨_, q⟩ | ⟨_, q⟩
      · rw [q]; exact .inr h0
      · exact .inl ⟨j, le j b q⟩
    · rcases own1_cases h with ⟨q, _⟩ | ⟨_, q⟩
      · exact absurd q hn
      · exact q
/-- name = anything -/
theorem s_setV (c : Ctx X E W k) (i : Nat) {n : PEnv → M Slot} {pos' : Pos} (h : CV X E W e n) (hi : X.N[i]? = some x := by rfl) (hx : Loc X.env.scope x := by first | exact Or.inl rfl | exact Or.inr rfl) (hs : swapsWith e (some (.Name x pos')) pos.line X.env = pure false := by rfl)
    (hf : X.fn x = true ∨ X.env.scope.names.lookup x = some .local := by first | exact .inl rfl | exact .inr rfl) : CS X E W (.Assign [.Name x pos'] e pos) (fun ρ => n ρ >>= fun y => pure (.nx, ρ.set i y)) := by
  obtain ⟨t, p, k⟩ := h
  refine ⟨_, ps_set (i := i) c.nd hi hx p hs hf, fun σ H ρ s M0 A D R dl h => ?_⟩
  refine k σ H ρ s M0 A _ R dl ?_
  dsimp only at h
  rw [bind_run] at h
  cases e0 : n ρ s with
  | ok l s1 =>
    rw [e0] at h
    intro H1 x1 d1 v st
    obtain ⟨A2, R2, u2, _, _⟩ := R.setS (fun _ _ z => z) x1 d1 i st
    exact h _ H1 A2 R2 (x1.mono fun _ z => .inl z) u2 d1
  | exc cc l s' =>
    rw [e0] at h
    exact fun H' dct x d q => h H' dct (x.mono fun _ z => .inl z) d q
  | bad => rw [e0] at h; exact h
/-- two at once: a, b = x, y with plain local names -/
theorem s_par2 (c : Ctx X E W k) (i j : Nat) {y : Str} {a b : Expr} {px py pt pt2 : Pos} {kt k2 : Nat} {n1 n2 : PEnv → M Slot} (ha : CV X E W a n1) (hb : CV X E W b n2)
    (hi : X.N[i]? = some x := by rfl) (hj : X.N[j]? = some y := by rfl) (hij : i ≠ j := by decide)
    (hx : X.env.scope.names.lookup x = some .local := by rfl) (hy : X.env.scope.names.lookup y = some .local := by rfl)
    (hs1 : starEach [a, b] X.env = (false, eval a X.env) :: starEach [b] X.env := by rfl) (hs2 : starEach [b] X.env = (false, eval b X.env) :: starEach [] X.env := by rfl)
    (hw : swappedStores [.Tuple [.Name x px, .Name y py] kt pt] (.Tuple [a, b] k2 pt2) X.env = pure (some [x, y]) := by rfl)
    (hs : swapsWithSole [.Tuple [.Name x px, .Name y py] kt pt] (.Tuple [a, b] k2 pt2) pos.line X.env = pure false := by rfl) :
    CS X E W (.Assign [.Tuple [.Name x px, .Name y py] kt pt] (.Tuple [a, b] k2 pt2) pos) (fun ρ => n1 ρ >>= fun d => n2 ρ >>= fun e => pure (.nx, (ρ.set i d).set j e)) := by
  obtain ⟨ta, pa, k1⟩ := ha
  obtain ⟨tb, pb, k2⟩ := hb
  refine ⟨_, ps_par c.calm c.nd hi hj hij hx hy (pa_cons pa (pa_cons pb pa_nil hs2) hs1) hw hs, fun σ H ρ s M0 A D R dl h => ?_⟩
  dsimp only at h
  rw [bind_run] at h
  refine k1 σ H ρ s M0 A _ R dl ?_
  cases e1 : n1 ρ s with
  | bad => rw [e1] at h; exact h
  | exc cc l s' => rw [e1] at h; exact fun H' dct x d q => h H' dct (x.mono fun _ z => .inl z) d q
  | ok d s1 =>
    rw [e1] at h
    intro H1 x1 d1 v st1
    have h : SFin E W M0 A H ((n2 ρ >>= fun e => pure (Fl.nx, (ρ.set i d).set j e)) s1) D := h
    obtain ⟨A1, Ra, u1, b1, f1⟩ := R.setS (fun _ _ z => z) x1 d1 i st1
    have R1 : ER E (fun b => M0 b ∨ A1 i = some b) A H1 σ ρ := R.moreA x1 d1 fun b z => ⟨f1 b z, Ra.mok b (.inr ⟨i, z⟩)⟩
    rw [bind_run] at h
    refine k2 σ H1 ρ s1 _ A _ R1 d1 ?_
    cases e2 : n2 ρ s1 with
    | bad => rw [e2] at h; exact h
    | exc cc l s' => rw [e2] at h; exact fun H' dct x d q => h H' dct ((x1.trans x).mono fun _ z => .inl z) d q
    | ok e s2 =>
      rw [e2] at h
      intro H2 x2 d2 w st2
      refine ⟨v, w, rfl, ?_⟩
      have far : ∀ b, Own M0 A1 b → Own (fun b => M0 b ∨ A1 i = some b) A b := fun b z => by
        rcases z with z | ⟨l, z⟩
        · exact .inl (.inl z)
        · by_cases q : l = i
          · subst q; exact .inl (.inr z)
          · exact .inr ⟨l, b1 l b z q⟩
      obtain ⟨A2, Rb, u2, b2, _⟩ := Ra.setS (A := A1) (fun _ _ z => z) x2 d2 j (st2.less far)
      refine h _ H2 A2 Rb ((x1.trans x2).mono fun _ z => .inl z) (fun l a z => ?_) d2
      rcases u2 l a z with ⟨l', q⟩ | q
      · exact u1 l' a q
      · exact .inr (was_free x1 d1 q)
/-! ### any number at once -/
/-- the address that a store takes -/
def nw (v : V) : Slot → Addr → Prop
  | .mu _, a => v = .ref a
  | .md _ _, a => v = .ref a
  | _, _ => False
def setAll {α : Type} (l : List α) : List (Nat × α) → List α
  | [] => l
  | p :: r => setAll (l.set p.1 p.2) r
theorem setAll_set {α : Type} : ∀ {r : List (Nat × α)} {l : List α} {i : Nat} {x : α}, i ∉ r.map (·.1) → setAll (l.set i x) r = (setAll l r).set i x
  | [], _, _, _, _ => rfl
  | p :: r, l, i, x, h => by
    simp only [List.map_cons, List.mem_cons, not_or] at h
    show setAll ((l.set i x).set p.1 p.2) r = (setAll (l.set p.1 p.2) r).set i x
    rw [List.set_comm _ _ h.1, setAll_set h.2]
def CVA (X : Cx) (E : Ev) (W : XK) (es : List Expr) (m : PEnv → M (List Slot)) : Prop :=
  ∃ t : TA, PA X es t ∧ ∀ (σ : L2.St) (H : Hp) (ρ : PEnv) (s : Dl) (M0 : Addr → Prop) (A : Nat → Option Addr) (Q : List V → Hp → Prop), ER E M0 A H σ ρ → DealAt E H s →
    Fin E W H (m ρ s) (fun ys _ H' => ∀ vs, vs.length = ys.length → (∀ (is : List Nat), is.Nodup → is.length = ys.length →
      ∃ A2, ER E M0 A2 H' (setAll σ (is.zip (vs.map some))) (setAll ρ (is.zip ys)) ∧ ∀ i a, A2 i = some a → A i = some a ∨ (i ∈ is ∧ H a = none)) → Q vs H') → t σ H Q
theorem va_nil : CVA X E W [] (fun _ => pure []) :=
  ⟨_, pa_nil, fun σ H ρ s M0 A Q R dl h => h.ok dl [] rfl fun is _ hl => by
    have e : is = [] := List.eq_nil_of_length_eq_zero hl
    subst e
    exact ⟨A, R, fun i a z => .inl z⟩⟩
theorem StAt.made {M0 : Addr → Prop} {A : Nat → Option Addr} {H H' : Hp} {v : V} {y : Slot} (h : StAt E M0 A H H' v y) {b : Addr} (z : nw v y b) : H b = none ∧ ∃ o, H' b = some o ∧ Wr o := by
  cases y with
  | un => exact z.elim
  | im d => exact z.elim
  | mu l =>
    obtain ⟨a, vs, e, h0, h1, _⟩ := h
    have z : v = .ref b := z
    rw [e] at z
    cases z
    exact ⟨h0, _, h1, trivial⟩
  | md t l =>
    obtain ⟨a, e, h0, h1⟩ := h
    have z : v = .ref b := z
    rw [e] at z
    cases z
    cases h1 with
    | k e1 _ _ => exact ⟨h0, _, e1, trivial⟩
    | t e1 _ _ => exact ⟨h0, _, e1, trivial⟩
/-- what was left alone is stored at a name -/
theorem ER.take {M0 : Addr → Prop} {A A2 : Nat → Option Addr} {H H1 H2 : Hp} {σ : L2.St} {ρ : PEnv} {v : V} {y : Slot} (i : Nat) (st : StAt E M0 A H H1 v y) (mA : MOk (Own M0 A) H) (x2 : Ext (Dm E) H1 H2) (d1 : ∀ b, Dm E b → M0 b) (m1 : MOk (Dm E) H1)
    (R2 : ER E (fun b => M0 b ∨ nw v y b) A2 H2 σ ρ) (ha : ∀ j a, A2 j = some a → A j = some a ∨ H1 a = none) : ∃ A3, ER E M0 A3 H2 (σ.set i (some v)) (ρ.set i y) ∧ ∀ j a, A3 j = some a → (j ≠ i ∧ A2 j = some a) ∨ (j = i ∧ H a = none) := by
  -- what the stored thing stands on avoids all that is owned now
  have far : ∀ {Mv : Addr → Prop} {w : V} {z : D}, Rep E (fun b => Own M0 A b ∨ nw v y b) H1 w z → (∀ b, Mv b → (Own M0 A b ∨ nw v y b) ∨ H1 b = none) → Rep E Mv H2 w z := fun r k => Rep.mono (Mw := _) k ((r.fresh).extS x2 m1 fun b z => .inl (.inl (.inl (d1 b z))))
  have farA : ∀ {Mv : Addr → Prop} {w : List V} {z : List D}, RepA E (fun b => Own M0 A b ∨ nw v y b) H1 w z → (∀ b, Mv b → (Own M0 A b ∨ nw v y b) ∨ H1 b = none) → RepA E Mv H2 w z := fun r k => RepA.mono (Mw := _) k ((r.fresh).extS x2 m1 fun b z => .inl (.inl (.inl (d1 b z))))
  cases y with
  | un => exact st.elim
  | im z =>
    have e : (fun b => M0 b ∨ nw v (Slot.im z) b) = M0 := by
      funext b
      simp [nw]
    rw [e] at R2
    refine ⟨_, R2.setI (far (Rep.mono (fun b q => q.elim id fun q => q.elim) st) fun b q => ?_), fun j a h => .inl ⟨fun e => by rw [e] at h; simp [clr] at h, clr_some h⟩⟩
    rcases q with q | ⟨j, q⟩
    · exact .inl (.inl (.inl q))
    · rcases ha j b q with q | q
      · exact .inl (.inl (.inr ⟨j, q⟩))
      · exact .inr q
  | mu l =>
    obtain ⟨a, us, rfl, h0, h1, r⟩ := st
    have na : ¬ M0 a := fun z => mA.tr (.inl z) h0
    have na2 : ∀ j, A2 j ≠ some a := fun j q => R2.own j a q (.inr rfl)
    have sub : ∀ b, Own M0 (own1 A2 i a) b → Own (fun b => M0 b ∨ nw (.ref a) (.mu l) b) A2 b := fun b z => by
      rcases z with z | ⟨j, z⟩
      · exact .inl (.inl z)
      · rcases own1_cases z with ⟨_, q⟩ | ⟨_, q⟩
        · exact .inl (.inr (by rw [q]; rfl))
        · exact .inr ⟨j, q⟩
    refine ⟨own1 A2 i a, ⟨?_, ?_, fun j b h => ?_, fun j l' b h1 h2 => ?_, fun b m => R2.mok b (sub b m), by simp [R2.len], fun j z h => ?_⟩, fun j b h => ?_⟩
    · exact fun o => d1 _ ⟨o, .inl rfl⟩
    · exact fun o => d1 _ ⟨o, .inr rfl⟩
    · rcases own1_cases h with ⟨_, q⟩ | ⟨_, q⟩
      · rw [q]; exact na
      · exact fun z => R2.own j b q (.inl z)
    · rcases own1_cases h1 with ⟨e1, q1⟩ | ⟨e1, q1⟩ <;> rcases own1_cases h2 with ⟨e2, q2⟩ | ⟨e2, q2⟩
      · rw [e1, e2]
      · exact absurd (by rw [← q1]; exact q2) (na2 l')
      · exact absurd (by rw [← q2]; exact q1) (na2 j)
      · exact R2.inj j l' b q1 q2
    · by_cases e : j = i
      · subst e
        rw [List.getElem?_set] at h
        simp only [if_true] at h
        split at h
        · rename_i hl
          cases h
          refine ⟨a, us, by simp [own1], ?_, x2 _ _ h1 (fun z => na (d1 a z)), farA (r.mono fun b q => q.imp id fun q => by cases q; rfl) fun b q => ?_⟩
          · rw [List.getElem?_set_self (by rw [← R2.len]; exact hl)]
          · rcases sub b q with (q | q) | ⟨j, q⟩
            · exact .inl (.inl (.inl q))
            · exact .inl (.inr q)
            · rcases ha j b q with q | q
              · exact .inl (.inl (.inr ⟨j, q⟩))
              · exact .inr q
        · cases h
      · rw [List.getElem?_set_ne (Ne.symm e)] at h ⊢
        have q : own1 A2 i a j = A2 j := by simp [own1, e]
        rw [q]
        exact (R2.at_ j z h).mono sub
    · rcases own1_cases h with ⟨e, q⟩ | ⟨e, q⟩
      · exact .inr ⟨e, by rw [q]; exact h0⟩
      · exact .inl ⟨e, q⟩
  | md t l =>
    obtain ⟨a, rfl, h0, hd⟩ := st
    have na : ¬ M0 a := fun z => mA.tr (.inl z) h0
    have na2 : ∀ j, A2 j ≠ some a := fun j q => R2.own j a q (.inr rfl)
    have sub : ∀ b, Own M0 (own1 A2 i a) b → Own (fun b => M0 b ∨ nw (.ref a) (.md t l) b) A2 b := fun b z => by
      rcases z with z | ⟨j, z⟩
      · exact .inl (.inl z)
      · rcases own1_cases z with ⟨_, q⟩ | ⟨_, q⟩
        · exact .inl (.inr (by rw [q]; rfl))
        · exact .inr ⟨j, q⟩
    refine ⟨own1 A2 i a, ⟨?_, ?_, fun j b h => ?_, fun j l' b h1 h2 => ?_, fun b m => R2.mok b (sub b m), by simp [R2.len], fun j z h => ?_⟩, fun j b h => ?_⟩
    · exact fun o => d1 _ ⟨o, .inl rfl⟩
    · exact fun o => d1 _ ⟨o, .inr rfl⟩
    · rcases own1_cases h with ⟨_, q⟩ | ⟨_, q⟩
      · rw [q]; exact na
      · exact fun z => R2.own j b q (.inl z)
    · rcases own1_cases h1 with ⟨e1, q1⟩ | ⟨e1, q1⟩ <;> rcases own1_cases h2 with ⟨e2, q2⟩ | ⟨e2, q2⟩
      · rw [e1, e2]
      · exact absurd (by rw [← q1]; exact q2) (na2 l')
      · exact absurd (by rw [← q2]; exact q1) (na2 j)
      · exact R2.inj j l' b q1 q2
    · by_cases e : j = i
      · subst e
        rw [List.getElem?_set] at h
        simp only [if_true] at h
        split at h
        · rename_i hl
          cases h
          have ok : ∀ b, Own M0 (own1 A2 j a) b → (Own M0 A b ∨ nw (.ref a) (.md t l) b) ∨ H1 b = none := fun b q => by
            rcases sub b q with (q | q) | ⟨j, q⟩
            · exact .inl (.inl (.inl q))
            · exact .inl (.inr q)
            · rcases ha j b q with q | q
              · exact .inl (.inl (.inr ⟨j, q⟩))
              · exact .inr q
          refine ⟨a, by simp [own1], ?_, ?_⟩
          · rw [List.getElem?_set_self (by rw [← R2.len]; exact hl)]
          · cases hd with
            | k e1 e2 e3 => exact .k (x2 _ _ e1 (fun z => na (d1 a z))) e2 (farA (e3.mono fun b q => q.imp id fun q => by cases q; rfl) ok)
            | t e1 e2 e3 => exact .t (x2 _ _ e1 (fun z => na (d1 a z))) e2 (farA (e3.mono fun b q => q.imp id fun q => by cases q; rfl) ok)
        · cases h
      · rw [List.getElem?_set_ne (Ne.symm e)] at h ⊢
        have q : own1 A2 i a j = A2 j := by simp [own1, e]
        rw [q]
        exact (R2.at_ j z h).mono sub
    · rcases own1_cases h with ⟨e, q⟩ | ⟨e, q⟩
      · exact .inr ⟨e, by rw [q]; exact h0⟩
      · exact .inl ⟨e, q⟩
theorem va_cons {n1 : PEnv → M Slot} {n2 : PEnv → M (List Slot)} (h1 : CV X E W e n1) (h2 : CVA X E W es n2) (hs : starEach (e :: es) X.env = (false, eval e X.env) :: starEach es X.env := by rfl) : CVA X E W (e :: es) (fun ρ => n1 ρ >>= fun y => n2 ρ >>= fun l => pure (y :: l)) := by
  obtain ⟨t, p, k1⟩ := h1
  obtain ⟨u, q, k2⟩ := h2
  refine ⟨_, pa_cons p q hs, fun σ H ρ s M0 A Q R dl h => ?_⟩
  refine k1 σ H ρ s M0 A _ R dl ?_
  dsimp only at h
  rw [bind_run] at h
  cases e1 : n1 ρ s with
  | bad => rw [e1] at h; exact h
  | exc cc l s' => rw [e1] at h; exact h
  | ok y s1 =>
    rw [e1] at h
    intro H1 x1 d1 v st
    have R1 : ER E (fun b => M0 b ∨ nw v y b) A H1 σ ρ := R.moreA x1 d1 fun b z => st.made z
    refine k2 σ H1 ρ s1 _ A _ R1 d1 ?_
    have h : Fin E W H ((n2 ρ >>= fun l => pure (y :: l)) s1) _ := h
    rw [bind_run] at h
    cases e2 : n2 ρ s1 with
    | bad => rw [e2] at h; exact h
    | exc cc l s' => rw [e2] at h; exact fun H' dct x d z => h H' dct (x1.trans x) d z
    | ok ys s2 =>
      rw [e2] at h
      intro H2 x2 d2 vs hl joint
      refine h H2 (x1.trans x2) d2 (v :: vs) (by simp [hl]) fun is nd hl2 => ?_
      cases is with
      | nil => simp at hl2
      | cons i is =>
        have nd2 := List.nodup_cons.mp nd
        obtain ⟨A2, R2, u2⟩ := joint is nd2.2 (by simpa using hl2)
        have m1 : MOk (Dm E) H1 := fun b z => by
          rcases z with ⟨o, z | z⟩
          · rw [z]; exact ⟨_, d1.p o, trivial⟩
          · rw [z]; exact ⟨_, d1.q o, trivial⟩
        obtain ⟨A3, R3, u3⟩ := ER.take i st R.mok x2 (fun b z => by
          rcases z with ⟨o, z | z⟩
          · rw [z]; exact R.mp o
          · rw [z]; exact R.mq o) m1 R2 fun j a z => (u2 j a z).imp id fun z => z.2
        have z1 : setAll σ ((i :: is).zip ((v :: vs).map some)) = (setAll σ (is.zip (vs.map some))).set i (some v) := by
          show setAll (σ.set i (some v)) (is.zip (vs.map some)) = _
          refine setAll_set fun hm => nd2.1 ?_
          obtain ⟨⟨a, b⟩, ha, rfl⟩ := List.mem_map.mp hm
          exact (List.of_mem_zip ha).1
        have z2 : setAll ρ ((i :: is).zip (y :: ys)) = (setAll ρ (is.zip ys)).set i y := by
          show setAll (ρ.set i y) (is.zip ys) = _
          refine setAll_set fun hm => nd2.1 ?_
          obtain ⟨⟨a, b⟩, ha, rfl⟩ := List.mem_map.mp hm
          exact (List.of_mem_zip ha).1
        refine ⟨A3, by rw [z1, z2]; exact R3, fun j a z => ?_⟩
        rcases u3 j a z with ⟨n, z⟩ | ⟨e, z⟩
        · rcases u2 j a z with z | ⟨m, z⟩
          · exact .inl z
          · exact .inr ⟨List.mem_cons_of_mem _ m, was_free x1 d1 z⟩
        · exact .inr ⟨by rw [e]; exact List.mem_cons_self, z⟩
/-! the statements -/
def gsN : List Nat → TGs
  | [] => gNil
  | i :: r => gCons (gName i) (gsN r)
theorem n_nil : PGs X [] (gsN []) := pgs_nil
theorem n_cons (c : Ctx X E W k) (i : Nat) {is : List Nat} {p : Pos} (hr : PGs X es (gsN is)) (hi : X.N[i]? = some x := by rfl) (hx : Loc X.env.scope x := by first | exact Or.inl rfl | exact Or.inr rfl)
    (hf : X.fn x = true ∨ X.env.scope.names.lookup x = some .local := by first | exact .inl rfl | exact .inr rfl) (hs : (assignEach (.Name x p :: es) X.env).map (·.2) = assign (.Name x p) X.env :: (assignEach es X.env).map (·.2) := by rfl) : PGs X (.Name x p :: es) (gsN (i :: is)) :=
  pgs_cons (pg_name (i := i) c.nd hi hx hf) hr hs
theorem gsN_go {H : Hp} {Q : L2.St → Hp → Prop} : ∀ {is : List Nat} {vs : List V} {σ : L2.St}, vs.length = is.length → Q (setAll σ (is.zip (vs.map some))) H → gsN is vs σ H Q
  | [], [], σ, _, q => ⟨rfl, q⟩
  | [], _ :: _, _, h, _ => by simp at h
  | _ :: _, [], _, h, _ => by simp at h
  | i :: is, v :: vs, σ, h, q => ⟨v, vs, rfl, gsN_go (is := is) (vs := vs) (by simpa using h) q⟩
/-- a, b, .. = x, y, .. by way of a tuple -/
theorem s_parT (c : Ctx X E W k) {ts : List Expr} {is : List Nat} {kt k2 len : Nat} {pt pt2 : Pos} {n : PEnv → M (List Slot)} (h : CVA X E W es n) (ht : PGs X ts (gsN is)) (nd : is.Nodup := by decide) (hlen : is.length = len := by rfl)
    (hn : (assignEach ts X.env).length = len := by rfl) (hst : (assignEach ts X.env).findIdx? (·.1) = none := by rfl)
    (hs : swapsWithSole [.Tuple ts kt pt] (.Tuple es k2 pt2) pos.line X.env = pure false := by rfl) (hw : swappedStores [.Tuple ts kt pt] (.Tuple es k2 pt2) X.env = pure none := by rfl)
    (h1 : (assignEach [.Tuple ts kt pt] X.env).map (·.2) = [assign (.Tuple ts kt pt) X.env] := by rfl) :
    CS X E W (.Assign [.Tuple ts kt pt] (.Tuple es k2 pt2) pos) (fun ρ => n ρ >>= fun ys => lift (if ys.length = is.length ∧ ys.length ≤ sizeLine then some () else none) >>= fun _ => pure (.nx, setAll ρ (is.zip ys))) := by
  obtain ⟨t, p, kk⟩ := h
  refine ⟨_, ps_asg (pe_tup p) (pg_tup c.calm ht hn hst) hs hw h1, fun σ H ρ s M0 A D R dl h => ?_⟩
  refine kk σ H ρ s M0 A _ R dl ?_
  dsimp only at h
  rw [bind_run] at h
  cases e1 : n ρ s with
  | bad => rw [e1] at h; exact h
  | exc cc l s' => rw [e1] at h; exact fun H' dct x d q => h H' dct (x.mono fun _ z => .inl z) d q
  | ok ys s1 =>
    rw [e1] at h
    intro H1 x1 d1 vs hl joint
    obtain ⟨_, el, h⟩ := SFin.lift (show SFin E W M0 A H ((lift (if ys.length = is.length ∧ ys.length ≤ sizeLine then some () else none) >>= fun _ => pure (Fl.nx, setAll ρ (is.zip ys))) s1) D from h)
    split at el
    · rename_i hc
      refine ⟨by rw [hl]; exact hc.2, fun T hT => ⟨T, vs, rfl, .inl (.inl upd_same), by rw [hl, hc.1, hlen], ?_⟩⟩
      obtain ⟨A2, R2, u2⟩ := joint is nd hc.1.symm
      refine gsN_go (by rw [hl, hc.1]) ?_
      have d2 := d1.laid (o := .tup vs) hT
      exact h _ _ A2 (R2.ext (Ext.laid hT) d2) ((x1.trans (Ext.laid hT)).mono fun _ z => .inl z) (fun i a z => (u2 i a z).imp (fun z => ⟨i, z⟩) fun z => z.2) d2
    · cases el
/-- three at once, plain local names -/
theorem s_par3 (c : Ctx X E W k) (i j l : Nat) {y z : Str} {a b d : Expr} {px py pz pt pt2 : Pos} {kt k2 : Nat} {n : PEnv → M (List Slot)} (h : CVA X E W [a, b, d] n)
    (hi : X.N[i]? = some x := by rfl) (hj : X.N[j]? = some y := by rfl) (hl : X.N[l]? = some z := by rfl) (hij : i ≠ j := by decide) (hil : i ≠ l := by decide) (hjl : j ≠ l := by decide)
    (hx : X.env.scope.names.lookup x = some .local := by rfl) (hy : X.env.scope.names.lookup y = some .local := by rfl) (hz : X.env.scope.names.lookup z = some .local := by rfl)
    (hw : swappedStores [.Tuple [.Name x px, .Name y py, .Name z pz] kt pt] (.Tuple [a, b, d] k2 pt2) X.env = pure (some [x, y, z]) := by rfl)
    (hs : swapsWithSole [.Tuple [.Name x px, .Name y py, .Name z pz] kt pt] (.Tuple [a, b, d] k2 pt2) pos.line X.env = pure false := by rfl) :
    CS X E W (.Assign [.Tuple [.Name x px, .Name y py, .Name z pz] kt pt] (.Tuple [a, b, d] k2 pt2) pos) (fun ρ => n ρ >>= fun ys => lift (if ys.length = 3 then some () else none) >>= fun _ => pure (.nx, setAll ρ ([i, j, l].zip ys))) := by
  obtain ⟨t, p, kk⟩ := h
  refine ⟨_, ps_par3 c.calm c.nd hi hj hl hij hil hjl hx hy hz p hw hs, fun σ H ρ s M0 A D R dl h => ?_⟩
  refine kk σ H ρ s M0 A _ R dl ?_
  dsimp only at h
  rw [bind_run] at h
  cases e1 : n ρ s with
  | bad => rw [e1] at h; exact h
  | exc cc l s' => rw [e1] at h; exact fun H' dct x d q => h H' dct (x.mono fun _ z => .inl z) d q
  | ok ys s1 =>
    rw [e1] at h
    intro H1 x1 d1 vs hv joint
    obtain ⟨_, el, h⟩ := SFin.lift (show SFin E W M0 A H ((lift (if ys.length = 3 then some () else none) >>= fun _ => pure (Fl.nx, setAll ρ ([i, j, l].zip ys))) s1) D from h)
    split at el
    · rename_i hc
      obtain ⟨A2, R2, u2⟩ := joint [i, j, l] (by simp [hij, hil, hjl]) hc.symm
      rw [hc] at hv
      obtain ⟨v1, v2, v3, rfl⟩ : ∃ v1 v2 v3, vs = [v1, v2, v3] := by
        match vs, hv with
        | [v1, v2, v3], _ => exact ⟨_, _, _, rfl⟩
      exact ⟨v1, v2, v3, rfl, h _ _ A2 R2 (x1.mono fun _ z => .inl z) (fun i a z => (u2 i a z).imp (fun z => ⟨i, z⟩) fun z => z.2) d1⟩
    · cases el

/-! ### an owner gives up what it owns: from here on it is a datum -/
def frz (i : Nat) (ρ : PEnv) : PEnv := match ρ[i]? with
  | some (.mu l) => ρ.set i (.im (.lst l))
  | some (.md t l) => ρ.set i (.im (.dic t l))
  | _ => ρ
theorem ER.frz {M0 : Addr → Prop} {A : Nat → Option Addr} {H : Hp} {σ : L2.St} {ρ : PEnv} (R : ER E M0 A H σ ρ) (i : Nat) : ∃ A', ER E M0 A' H σ (PL.frz i ρ) ∧ ∀ j a, A' j = some a → A j = some a := by
  unfold PL.frz
  have less : ∀ j a, clr A i j = some a → A j = some a := fun j a h => clr_some h
  have go : ∀ (d : D), (∃ v, σ[i]? = some (some v) ∧ Rep E (Own M0 (clr A i)) H v d) → ER E M0 (clr A i) H σ (ρ.set i (.im d)) := fun d hd => by
    refine ⟨R.mp, R.mq, fun j a h => R.own j a (less j a h), fun j l a h1 h2 => R.inj j l a (less j a h1) (less l a h2), fun b m => R.mok b (Own.less less b m), by simp [R.len], fun j x h => ?_⟩
    by_cases e : j = i
    · subst e
      rw [List.getElem?_set] at h
      simp only [if_true] at h
      split at h
      · cases h
        exact ⟨by simp [clr], hd⟩
      · cases h
    · rw [List.getElem?_set_ne (Ne.symm e)] at h
      have q : clr A i j = A j := by simp [clr, e]
      rw [q]
      exact (R.at_ j x h).mono (Own.less less)
  have notown : ∀ a, A i = some a → ¬ Own M0 (clr A i) a := fun a ha z => by
    rcases z with z | ⟨j, z⟩
    · exact R.own i a ha z
    · have := R.inj i j a ha (clr_some z)
      subst this
      simp [clr] at z
  split
  · rename_i l e
    obtain ⟨a, vs, h1, h2, h3, h4⟩ := R.at_ i _ e
    exact ⟨_, go _ ⟨_, h2, .lst h3 (notown a h1) (h4.mono (Own.less less))⟩, less⟩
  · rename_i t l e
    obtain ⟨a, h1, h2, h3⟩ := R.at_ i _ e
    refine ⟨_, go _ ⟨_, h2, ?_⟩, less⟩
    cases h3 with
    | k e1 e2 r => exact .dk e1 (notown a h1) e2 (r.mono (Own.less less))
    | t e1 e2 r => exact .dt e1 (notown a h1) e2 (r.mono (Own.less less))
  · exact ⟨A, R, fun _ _ z => z⟩
theorem s_frz (i : Nat) {sts : List Stmt} {n : PEnv → M (Fl × PEnv)} (h : CB X E W sts n) : CB X E W sts (fun ρ => n (frz i ρ)) := by
  obtain ⟨t, p, kk⟩ := h
  refine ⟨t, p, fun σ H ρ s M0 A D R dl h => ?_⟩
  obtain ⟨A', R', le⟩ := R.frz i
  exact kk σ H _ s M0 A' D R' dl (SFin.base h Ext.refl (Sub.less le) R'.mok R.mp R.mq)
theorem s_frz1 (i : Nat) {st : Stmt} {n : PEnv → M (Fl × PEnv)} (h : CS X E W st n) : CS X E W st (fun ρ => n (frz i ρ)) := by
  obtain ⟨t, p, kk⟩ := h
  refine ⟨t, p, fun σ H ρ s M0 A D R dl h => ?_⟩
  obtain ⟨A', R', le⟩ := R.frz i
  exact kk σ H _ s M0 A' D R' dl (SFin.base h Ext.refl (Sub.less le) R'.mok R.mp R.mq)

/-! ### dicts made and written -/
theorem d_newK {pos : Pos} : CD X E W (.Dict [] [] pos) false (fun _ => pure []) :=
  ⟨_, pe_dnewK, fun σ H ρ s M0 A Q R dl h => fun q hq => h.okAt (Ext.laid hq) (dl.laid hq) q hq (.k upd_same rfl .nil)⟩
theorem d_newT {pos : Pos} : CD X E W (.Dict [] [] pos) true (fun _ => pure []) :=
  ⟨_, pe_dnewT, fun σ H ρ s M0 A Q R dl h => fun q hq => h.okAt (Ext.laid hq) (dl.laid hq) q hq (.t upd_same rfl .nil)⟩
/-- {i: b}, both written -/
theorem d_one {i : Int} {b : Bool} {j j2 : Nat} {p1 p2 pos : Pos} : CD X E W (.Dict [some (.Constant (.int i) j p1)] [.Constant (.bool b) j2 p2] pos) false (fun _ => pure [(.int i, .bl b)]) := by
  refine ⟨_, pe_disp (pps_cons pe_int pe_bl pps_nil) rfl rfl (fun z => by cases z) (by simp), fun σ H ρ s M0 A Q R dl h => ?_⟩
  intro q hq
  refine ⟨upd_same, [(.inl i, .bl b)], rfl, by simp, ?_⟩
  rw [upd_upd]
  exact h.okAt (Ext.laid hq) (dl.laid hq) q hq (.k (ks := [(.inl i, .bl b)]) upd_same rfl (.cons (.bl b) .nil))
def putD (l : List (D × D)) (y v : D) : List (D × D) := if (l.any fun p => decide (dkey p.1 = dkey y)) = true then l.map (fun p => if dkey p.1 = dkey y then (p.1, v) else p) else l ++ [(y, v)]
theorem put_rel {Mv : Addr → Prop} {H : Hp} {κ : Type} [DecidableEq κ] {f : κ → D} {g : κ → DK} (hg : ∀ x, dkey (f x) = some (g x)) (gi : ∀ x y, g x = g y → x = y) {kk : κ} {v : V} {d : D} (rv : Rep E Mv H v d) {ks : List (κ × V)} {l : List (D × D)} (e : ks.map (fun p => f p.1) = l.map (·.1)) (r : RepA E Mv H (ks.map (·.2)) (l.map (·.2))) :
    (putK ks kk v).map (fun p => f p.1) = (putD l (f kk) d).map (·.1) ∧ RepA E Mv H ((putK ks kk v).map (·.2)) ((putD l (f kk) d).map (·.2)) := by
  have iff : ∀ a, (dkey (f a) = dkey (f kk)) ↔ a = kk := fun a => by
    rw [hg, hg]
    exact ⟨fun z => gi _ _ (Option.some.inj z), fun z => by rw [z]⟩
  have any_eq : ∀ {ks : List (κ × V)} {l : List (D × D)}, ks.map (fun p => f p.1) = l.map (·.1) → (ks.any fun p => decide (p.1 = kk)) = l.any fun p => decide (dkey p.1 = dkey (f kk)) := by
    intro ks
    induction ks with
    | nil => intro l e; cases l with
      | nil => rfl
      | cons _ _ => simp at e
    | cons p ks ih => intro l e; cases l with
      | nil => simp at e
      | cons q l =>
        simp only [List.map_cons, List.cons.injEq] at e
        rw [List.any_cons, List.any_cons, ih e.2, ← e.1]
        congr 1
        exact decide_eq_decide.mpr (iff p.1).symm
  have map_eq : ∀ {ks : List (κ × V)} {l : List (D × D)}, ks.map (fun p => f p.1) = l.map (·.1) → RepA E Mv H (ks.map (·.2)) (l.map (·.2)) →
      (ks.map fun kv => if kv.1 = kk then (kv.1, v) else kv).map (fun p => f p.1) = (l.map fun p => if dkey p.1 = dkey (f kk) then (p.1, d) else p).map (·.1) ∧
      RepA E Mv H ((ks.map fun kv => if kv.1 = kk then (kv.1, v) else kv).map (·.2)) ((l.map fun p => if dkey p.1 = dkey (f kk) then (p.1, d) else p).map (·.2)) := by
    intro ks
    induction ks with
    | nil => intro l e r; cases l with
      | nil => exact ⟨rfl, .nil⟩
      | cons _ _ => simp at e
    | cons p ks ih => intro l e r; cases l with
      | nil => simp at e
      | cons q l =>
        simp only [List.map_cons, List.cons.injEq] at e r
        cases r with
        | cons r1 r2 =>
          obtain ⟨i1, i2⟩ := ih e.2 r2
          by_cases hp : p.1 = kk
          · have hq : dkey q.1 = dkey (f kk) := by rw [← e.1]; exact (iff p.1).mpr hp
            simp only [List.map_cons, if_pos hp, if_pos hq]
            exact ⟨by rw [i1, e.1], .cons rv i2⟩
          · have hq : ¬ dkey q.1 = dkey (f kk) := by rw [← e.1]; exact fun z => hp ((iff p.1).mp z)
            simp only [List.map_cons, if_neg hp, if_neg hq]
            exact ⟨by rw [i1, e.1], .cons r1 i2⟩
  unfold putK putD
  rw [any_eq e]
  split
  · exact map_eq e r
  · simp only [List.map_append, List.map_cons, List.map_nil]
    exact ⟨by rw [e], r.append (.cons rv .nil)⟩
theorem putD_len (l : List (D × D)) (y v : D) : (putD l y v).length ≤ l.length + 1 := by
  unfold putD
  split <;> simp
/-- the kind of a key -/
def keyKind (t : Bool) (y : D) : Option Unit := match t, dkey y with
  | false, some (.inl _) => some ()
  | true, some (.inr _) => some ()
  | _, _ => none
theorem keyKind_some {t : Bool} {y : D} (h : keyKind t y = some ()) : (t = false ∧ ∃ kk, dkey y = some (.inl kk)) ∨ (t = true ∧ ∃ kk, dkey y = some (.inr kk)) := by
  unfold keyKind at h
  split at h
  · rename_i kk e; exact .inl ⟨rfl, kk, e⟩
  · rename_i kk e; exact .inr ⟨rfl, kk, e⟩
  · cases h
def dputM (i : Nat) (m mk : PEnv → M D) : PEnv → M (Fl × PEnv) := fun ρ => m ρ >>= fun d => lift (mdAt i ρ) >>= fun r => mk ρ >>= fun y => lift (if r.2.length < sizeLine then keyKind r.1 y else none) >>= fun _ => pure (.nx, ρ.set i (.md r.1 (putD r.2 y d)))
theorem keyD_of {y : D} {kk : Key} (e : dkey y = some (.inl kk)) : y = keyD kk := by
  cases y with
  | int i => simp only [dkey, Option.some.injEq, Sum.inl.injEq] at e; subst e; rfl
  | str i => simp only [dkey, Option.some.injEq, Sum.inl.injEq] at e; subst e; rfl
  | tup b l =>
    cases b with
    | false =>
      simp only [dkey, Option.map_eq_some_iff] at e
      obtain ⟨_, _, e⟩ := e
      cases e
    | true => simp only [dkey] at e; cases e
  | _ => simp only [dkey] at e; cases e
theorem keysD_of : ∀ {l : List D} {ks : List Key}, l.mapM keyK = some ks → l = ks.map keyD
  | [], ks, e => by simp at e; subst e; rfl
  | d :: l, ks, e => by
    simp only [List.mapM_cons, Option.pure_def, Option.bind_eq_bind, Option.bind_eq_some_iff, Option.some.injEq] at e
    obtain ⟨z, e1, zs, e2, rfl⟩ := e
    rw [List.map_cons, ← keysD_of e2]
    congr 1
    cases d with
    | int i => simp only [keyK, Option.some.injEq] at e1; subst e1; rfl
    | str i => simp only [keyK, Option.some.injEq] at e1; subst e1; rfl
    | _ => simp only [keyK] at e1; cases e1
theorem tupD_of {y : D} {kk : List Key} (e : dkey y = some (.inr kk)) : y = tupD kk := by
  cases y with
  | int i => simp only [dkey, Option.some.injEq] at e; cases e
  | str i => simp only [dkey, Option.some.injEq] at e; cases e
  | tup b l =>
    cases b with
    | false =>
      simp only [dkey, Option.map_eq_some_iff] at e
      obtain ⟨zs, e1, e⟩ := e
      cases e
      rw [keysD_of e1]
      rfl
    | true => simp only [dkey] at e; cases e
  | _ => simp only [dkey] at e; cases e
theorem s_dput (c : Ctx X E W k) (i : Nat) {p1 p2 p4 : Pos} (h : CE X E W .full e m1) (hj : CE X E W .sh e2 m2) (hN : X.N[i]? = some x := by rfl) (hv : Vis X.env.scope x := by first | exact Or.inl rfl | exact Or.inr (Or.inl rfl) | exact Or.inr (Or.inr rfl)) (hd : (x == ("__debug__" : Str)) = false := by decide)
    (hcd : (x == ("__classdict__" : Str)) = false := by decide) (hs : swapsWith e (some (.Subscript (.Name x p1) e2 p2)) p4.line X.env = pure false := by rfl) :
    CS X E W (.Assign [.Subscript (.Name x p1) e2 p2] e p4) (dputM i m1 m2) := by
  obtain ⟨t, p, k⟩ := h
  obtain ⟨tj, pj, kj⟩ := hj
  refine ⟨_, ps_dput c.u1 (pe_var (i := i) hN hv hd hcd) pj p hs, fun σ H ρ s M0 A D R dl h => ?_⟩
  unfold dputM at h
  refine k σ H ρ s M0 A _ R dl ((h.expr R).mono fun d s1 H1 _ x1 d1 h v r => ?_)
  have R1 := R.ext x1 d1
  obtain ⟨⟨tt, l⟩, el, h⟩ := h.lift
  have e0 := mdAt_some el
  obtain ⟨a, o1, o2, o3⟩ := R1.at_ i _ e0
  refine ⟨.ref a, o2, ?_⟩
  refine kj σ H1 ρ s1 M0 A _ R1 d1 ((h.expr R1).mono fun z s2 H2 _ x2 d2 h w r2 => ?_)
  have R2 := R1.ext x2 d2
  obtain ⟨_, e2, g⟩ := h.lift
  dsimp only at e2 g
  split at e2
  case isFalse => cases e2
  rename_i hz
  obtain ⟨a', q1, q2, q3⟩ := R2.at_ i _ e0
  rw [o1] at q1
  cases q1
  have rv := (show Rep E (Own M0 A) H1 v d from r).ext (R1.extM x2) R1.mok
  have rw : ∀ {kk : DK}, dkey z = some kk → Rep E (Own M0 A) H2 w z := fun ek => by
    rcases r2 with r2 | ⟨_, _, _, _, _, _, rfl, _⟩ | ⟨_, _, _, _, _, _, rfl, _⟩
    · exact r2
    · cases ek
    · cases ek
  have ew : ∀ o, Ext (fun b => b = a) H2 (upd H2 a o) := fun o b u e n => by rw [upd_ne n]; exact e
  have mw : MOk (fun b => b = a) H2 := fun b z => by rw [z]; exact R2.mok a (.inr ⟨i, o1⟩)
  have sw : ∀ b, b = a → Own M0 A b := fun b z => by rw [z]; exact .inr ⟨i, o1⟩
  rcases keyKind_some e2 with ⟨rfl, kk, ek⟩ | ⟨rfl, kk, ek⟩
  · cases q3 with
    | k h1 h2 h3 =>
      rename_i ks
      have hw := kV_key (rw ek) ek
      subst hw
      have hzd := keyD_of ek
      subst hzd
      have hlen : ks.length = l.length := by have := congrArg List.length h2; simpa using this
      refine ⟨a, _, rfl, DPut.k h1 (by rw [hlen]; exact hz), ?_⟩
      obtain ⟨i1, i2⟩ := put_rel (f := keyD) (g := Sum.inl) dkey_keyD (fun _ _ => Sum.inl.inj) rv h2 h3 (kk := kk)
      exact g σ _ A (R2.write o1 trivial ⟨a, rfl, q2, .k upd_same i1 (i2.extS (ew _) mw sw)⟩) (Ext.upd_own o1) Sub.refl (DealAt.upd_own R2 o1 d2)
  · cases q3 with
    | t h1 h2 h3 =>
      rename_i ks
      obtain ⟨b, rfl, hb⟩ := tup_key (rw ek) ek
      have hzd := tupD_of ek
      subst hzd
      have hlen : ks.length = l.length := by have := congrArg List.length h2; simpa using this
      refine ⟨a, _, rfl, DPut.t h1 hb (by rw [hlen]; exact hz), ?_⟩
      obtain ⟨i1, i2⟩ := put_rel (f := tupD) (g := Sum.inr) dkey_tupD (fun _ _ => Sum.inr.inj) rv h2 h3 (kk := kk)
      exact g σ _ A (R2.write o1 trivial ⟨a, rfl, q2, .t upd_same i1 (i2.extS (ew _) mw sw)⟩) (Ext.upd_own o1) Sub.refl (DealAt.upd_own R2 o1 d2)
end

/-! membership in dicts -/
section
variable {X : Cx} {E : Ev} {W : XK} {lv : Lv} {k : Nat} {e1 e2 : Expr} {pos : Pos} {m1 m2 : PEnv → M D}
theorem dicIn_go {neg : Bool} {ty td : TE} {f : D → D → M D} (hf : ∀ y d, f y d = lift ((lookD d y).map fun o => .bl (if neg then !o.isSome else o.isSome)))
    (k1 : ∀ (σ : L2.St) (H : Hp) (ρ : PEnv) (s : Dl) (M0 : Addr → Prop) (A : Nat → Option Addr) (Q : VK), ER E M0 A H σ ρ → DealAt E H s → Fin E W H (m1 ρ s) (fun d _ H' => ∀ v, RepL E M0 A H' .sh v d → Q v H') → ty σ H Q)
    (k2 : ∀ (σ : L2.St) (H : Hp) (ρ : PEnv) (s : Dl) (M0 : Addr → Prop) (A : Nat → Option Addr) (Q : VK), ER E M0 A H σ ρ → DealAt E H s → Fin E W H (m2 ρ s) (fun d _ H' => ∀ v, RepL E M0 A H' .sh v d → Q v H') → td σ H Q)
    {σ : L2.St} {H : Hp} {ρ : PEnv} {s : Dl} {M0 : Addr → Prop} {A : Nat → Option Addr} {Q : VK} (R : ER E M0 A H σ ρ) (dl : DealAt E H s)
    (h : Fin E W H ((m1 ρ >>= fun a => m2 ρ >>= fun b => f a b) s) (fun d _ H' => ∀ v, RepL E M0 A H' .sh v d → Q v H')) :
    ty σ H fun y H1 => td σ H1 fun x H2 => ∃ a o, x = .ref a ∧ DGet H2 a y o ∧ Q (.bl (if neg then !o.isSome else o.isSome)) H2 := by
  refine k1 σ H ρ s M0 A _ R dl (h.bind.mono fun a s1 H1 _ x1 d1 h v1 r1 => ?_)
  have R1 := R.ext x1 d1
  refine k2 σ H1 ρ s1 M0 A _ R1 d1 (h.bind.mono fun b s2 H2 _ x2 d2 h v2 r2 => ?_)
  rw [hf] at h
  obtain ⟨z, e, g⟩ := h.lift
  rw [Option.map_eq_some_iff] at e
  obtain ⟨o, e, rfl⟩ := e
  obtain ⟨p, r, rfl, _, gg, q⟩ := dic_get r2 (r1.ext R1 x2) e
  refine ⟨p, r, rfl, gg, ?_⟩
  have es : r.isSome = o.isSome := by
    rcases q with ⟨q1, q2⟩ | ⟨v, z', q1, q2, _⟩
    · rw [q1, q2]; rfl
    · rw [q1, q2]; rfl
  rw [es]
  exact g _ Ext.refl d2 _ (RepL.of (.bl _))
theorem b_inD (c : Ctx X E W k) (ha : CE X E W .sh e1 m1) (hb : CE X E W .sh e2 m2) (hm : behindInMarks .In e2 = false := by rfl) : CE X E W .sh (.Compare e1 [.In] [e2] pos) (fun ρ => m1 ρ >>= fun a => m2 ρ >>= fun b => inDicD a b) := by
  obtain ⟨ta, pa, k1⟩ := ha
  obtain ⟨tb, pb, k2⟩ := hb
  exact ⟨_, pe_cmp (pc_din c.u1 pa pb) hm, fun σ H ρ s M0 A Q R dl h => dicIn_go (neg := false) (fun _ _ => rfl) k1 k2 R dl h⟩
theorem b_ninD (c : Ctx X E W k) (ha : CE X E W .sh e1 m1) (hb : CE X E W .sh e2 m2) (hm : behindInMarks .NotIn e2 = false := by rfl) : CE X E W .sh (.Compare e1 [.NotIn] [e2] pos) (fun ρ => m1 ρ >>= fun a => m2 ρ >>= fun b => ninDicD a b) := by
  obtain ⟨ta, pa, k1⟩ := ha
  obtain ⟨tb, pb, k2⟩ := hb
  exact ⟨_, pe_cmp (pc_dnotin c.u1 pa pb) hm, fun σ H ρ s M0 A Q R dl h => dicIn_go (neg := true) (fun _ _ => rfl) k1 k2 R dl h⟩
theorem t_ofPC {op : CmpOp} {t : TE} {m : PEnv → M D} (p : PC X op e1 e2 t) (hm : behindInMarks op e2 = false)
    (kk : ∀ (σ : L2.St) (H : Hp) (ρ : PEnv) (s : Dl) (M0 : Addr → Prop) (A : Nat → Option Addr) (Q : VK), ER E M0 A H σ ρ → DealAt E H s → Fin E W H (m ρ s) (fun d _ H' => ∀ v, RepL E M0 A H' .sh v d → Q v H') → t σ H Q) : CT X E W (.Compare e1 [op] [e2] pos) (fun ρ => m ρ >>= asB) := by
  refine ⟨_, pt_cmp p hm, fun σ H ρ s M0 A Q R dl h => ?_⟩
  refine kk σ H ρ s M0 A _ R dl (h.bind.mono fun d s1 H1 _ x1 d1 h v r => ?_)
  unfold asB at h
  cases d with
  | bl b =>
    obtain rfl := RepL.bl r
    exact ⟨b, rfl, h.ok d1⟩
  | _ => exact h.elim
theorem t_inD (c : Ctx X E W k) (ha : CE X E W .sh e1 m1) (hb : CE X E W .sh e2 m2) (hm : behindInMarks .In e2 = false := by rfl) : CT X E W (.Compare e1 [.In] [e2] pos) (fun ρ => (m1 ρ >>= fun a => m2 ρ >>= fun b => inDicD a b) >>= asB) := by
  obtain ⟨ta, pa, k1⟩ := ha
  obtain ⟨tb, pb, k2⟩ := hb
  exact t_ofPC (pc_din c.u1 pa pb) hm fun σ H ρ s M0 A Q R dl h => dicIn_go (neg := false) (fun _ _ => rfl) k1 k2 R dl h
theorem t_ninD (c : Ctx X E W k) (ha : CE X E W .sh e1 m1) (hb : CE X E W .sh e2 m2) (hm : behindInMarks .NotIn e2 = false := by rfl) : CT X E W (.Compare e1 [.NotIn] [e2] pos) (fun ρ => (m1 ρ >>= fun a => m2 ρ >>= fun b => ninDicD a b) >>= asB) := by
  obtain ⟨ta, pa, k1⟩ := ha
  obtain ⟨tb, pb, k2⟩ := hb
  exact t_ofPC (pc_dnotin c.u1 pa pb) hm fun σ H ρ s M0 A Q R dl h => dicIn_go (neg := true) (fun _ _ => rfl) k1 k2 R dl h
end
end PL
end
section
set_option Elab.async false
set_option linter.all false
set_option maxRecDepth 100000
/-! PLE: enumerate of a tuple. -/
namespace PL
open PySem PySem.Spec PyProof.Rows L2
set_option maxHeartbeats 1000000 in
theorem meets_enum1 {v : Value} {o : Obj} {St : Heap → Prop} (B : Begins v o St) :
    Meets (Builtin.«enumerate.__new__» ⟨[.type "enumerate", v], []⟩) (fun _ Fin s => St s.heap ∧ Fin (.ok (.ret (.ref (s.heap.push o).objs.size)))
      { s with heap := (s.heap.push o).push { cls := .type "enumerate", data := .fields #[.none, .bool false, .ref s.heap.objs.size, rawInt 0, .none, .none] } }) :=
  .of_wp fun prog w Ar Fin s hyp => by
    obtain ⟨hh, ge, dr, tt, oo⟩ := s
    obtain ⟨st, hyp⟩ := hyp
    have isub := sub_enumerate
    have itr : ∀ {A' : Around} {E' : Value → Shared → Prop} {Q' : Value → Shared → Prop}, Q' (.ref hh.objs.size) ⟨hh.push o, ge, dr, tt, oo⟩ → wpAny (model prog w) A' (pyIter v) Q' E' ⟨hh, ge, dr, tt, oo⟩ := fun z => B.iter prog w _ _ ⟨hh, ge, dr, tt, oo⟩ _ st z
    wp_walk using itr
    refine wpAny_stack_any fun _ => wpAny_pure ?_
    split
    · rename_i cc _ _ _ _ _
      cases (cc == Value.type "enumerate") <;>
      · wp_walk using itr
        exact ⟨_, rfl, hyp⟩
    · wp_walk using itr
      exact ⟨_, rfl, hyp⟩
section
variable {prog : Program} {w : World} {Ar : Around} {Er : Value → Shared → Prop} {s : Shared}
theorem call_enum1 {v : Value} {o : Obj} {St : Heap → Prop} {Q : Value → Shared → Prop} (B : Begins v o St) (st : St s.heap)
    (k : ∀ h2, IsEnum h2 (s.heap.objs.size + 1) s.heap.objs.size 0 .none → h2.get? s.heap.objs.size = some o → (∀ b u, s.heap.get? b = some u → h2.get? b = some u) → Q (.ref (s.heap.objs.size + 1)) { s with heap := h2 }) :
    wpAny (model prog w) Ar (call (.type "enumerate") [v]) Q Er s := by
  refine callType_new F.called_enumerate (by decide) (F.typeCall_enumerate_1 _) (F.newCall_enumerate_1 _) (fun ob => F.args_object_init_2 ob _) F.entry_enumerate_new (meets_enum1 B) ⟨st, ?_⟩
  have z1 : (s.heap.push o).objs.size = s.heap.objs.size + 1 := Heap.size_push ..
  show _ ∧ _
  rw [z1]
  have g := Heap.get?_push_size (s.heap.push o) (o := { cls := .type "enumerate", data := .fields #[.none, .bool false, .ref s.heap.objs.size, rawInt 0, .none, .none] }) rfl
  rw [z1] at g
  exact ⟨⟨_, g, rfl⟩, k _ g (Heap.get?_push_of_some _ (Heap.get?_push_size _ B.free)) fun b u e => Heap.get?_push_of_some _ (Heap.get?_push_of_some _ e)⟩
end
/-- the tuple at a, each item in a new pair -/
def IteT (K : PySem.W.Frag) (a : Addr) : It :=
  ⟨fun i H => ∃ (vs : List V) (v : V), SqT K H a vs ∧ vs[i]? = some v, fun i H y H' => ∃ T v, y = .ref T ∧ H T = none ∧ H' = upd H T (.tup [.int (i : Nat), v]) ∧ ∀ vs, SqT K H a vs → vs[i]? = some v, fun i H => ∃ vs : List V, SqT K H a vs ∧ vs.length ≤ i⟩
theorem turn_enumT {P : Program} {w : World} {K : PySem.W.Frag} {elts : List Expr} {kk : Nat} {tpos : Pos} (a e it : Addr) (ne1 : e ≠ it) (ne2 : a ≠ it) (ne3 : e ≠ a) (its : Array Value) :
    Turn P w K (.Tuple elts kk tpos) (IteT K a) [e, it] e (fun i h => (∃ old, IsEnum h e it ((i : Nat) : Int) old) ∧ h.IsTupleIter it a i) where
  mem := by simp
  obj := fun i h st b hb => by
    obtain ⟨⟨old, he⟩, ⟨o, ho, hc, hd⟩⟩ := st
    rcases List.mem_cons.mp hb with z | z
    · rw [z]; exact ⟨_, he, fun v q => nomatch q⟩
    · rw [List.mem_singleton.mp z]; exact ⟨o, ho, fun v q => by rw [hd] at q; cases q⟩
  keep := fun i h h' st k => let ⟨⟨old, he⟩, hi⟩ := st; ⟨⟨old, k e (by simp) _ he⟩, hi.at fun o q => k it (by simp) o q⟩
  item := by
    intro X hP hw hK hc i pins s σ H E I hf st hg
    subst hP hw hK
    obtain ⟨⟨old, he⟩, hit⟩ := st
    obtain ⟨vs, v, hq, hv⟩ := hg
    obtain ⟨its, rv, pt, hz⟩ := I.tuple hq
    obtain ⟨u, hu, ru⟩ := rv.get hv
    have hel : e < s.heap.objs.size := Heap.lt_size he
    have hil : it < s.heap.objs.size := by obtain ⟨_, q, _⟩ := hit; exact Heap.lt_size q
    have hlt : i < its.toArray.size := by
      have := List.getElem?_eq_some_iff.mp hu
      obtain ⟨z, _⟩ := this
      simpa using z
    refine wpAny_pyNext_enum_itemD (Draws.tuple (prog := X.prog) (w := X.w) (A := X.A.in1) (I.ok.hd hc) it a ne2 its.toArray) he ⟨hit, pt⟩ hlt ne1 (by simp [ne1, ne3]) fun x h' tk hx ho hst hT hsz hk => ?_
    have ex : x = u := by
      have e1 : its.toArray[i]? = some u := by simpa using hu
      rw [e1] at hx
      exact (Option.some.inj hx).symm
    subst ex
    refine ⟨_, rfl, wpAny_letOwnedTupleGo_enum (s := { s with heap := h', toks := tk + 1 }) ho fun h'' he' sb => ?_⟩
    have hT2 : h''.get? s.heap.objs.size = some { cls := .type "tuple", data := .seq #[.int i tk, x] } := (sb.2 _ (Nat.ne_of_gt hel)).trans hT
    have new : ObjOk X.prog X.w (upd H s.heap.objs.size (.tup [.int (i : Nat), v])) h'' s.heap.objs.size (.tup [.int (i : Nat), v]) :=
      ⟨by show 2 ≤ sizeLine; decide, [.int i tk, x], .cons ⟨_, rfl⟩ (.cons ru .nil), ⟨_, hT2, rfl, _, rfl⟩⟩
    have I1 : Inv X pins σ (upd H s.heap.objs.size (.tup [.int (i : Nat), v])) { s with heap := h'', toks := tk + 1 } :=
      I.turnedNew (ch := [e, it]) (fun b ob hb q => (sb.2 b (fun z => hb (by simp [z]))).trans (hk b ob (fun z => hb (by simp [z])) (fun z => hb (by simp [z])) q)) hf (Nat.le_refl _) new
    refine ⟨.ref s.heap.objs.size, _, I1, rfl, ⟨_, v, rfl, I.hok.fresh (Nat.le_refl _), rfl, fun ys hy => ?_⟩, ⟨⟨x, ?_⟩, hst.1.at fun o q => (sb.2 it (Ne.symm ne1)).trans q⟩, fun b hb => ?_⟩
    · rw [I.tuple_inj hy hq]; exact hv
    · have e1 : ((i + 1 : Nat) : Int) = (i : Int) + 1 := by omega
      rw [e1]
      simpa using he'
    · have hb' : b < s.heap.objs.size := by
        rcases List.mem_cons.mp hb with z | z
        · rw [z]; exact hel
        · rw [List.mem_singleton.mp z]; exact hil
      rw [upd_ne (Nat.ne_of_lt hb')]
      exact (hf b hb).1
  done := by
    intro X hP hw hK hc i pins s σ H E I hf st hg
    subst hP hw hK
    obtain ⟨⟨old, he⟩, hit⟩ := st
    obtain ⟨vs, hq, hx⟩ := hg
    obtain ⟨its, rv, pt, hz⟩ := I.tuple hq
    obtain ⟨f0, f1, f2, f3, f4, f5⟩ := hf it (by simp)
    have hl := rv.length
    have D : Draws X.prog X.w X.A.in1 it [it, a] 0 (fun _ _ => False) (fun _ h => h.IsTupleIter it a i ∧ h.IsTuple a its.toArray) :=
      ⟨fun _ _ st => let ⟨o, ho, _⟩ := st.1; ⟨o, ho⟩, fun _ _ _ st hk => ⟨st.1.at fun o e => hk it (by simp) o e, st.2.at fun o e => hk a (by simp) o e⟩, fun j _ _ _ hj => absurd hj (Nat.not_lt_zero j),
        fun s Q E st hE => wpAny_nextOf_tuple_end (I.ok.hd hc) st.1 st.2 (by simp; omega) hE⟩
    exact wpAny_pyNext_enum_endD D he ⟨hit, pt⟩ fun h' eb => ⟨rfl, I.turned (t' := s.toks) (fun b o hb q => eb b o hb q) f0 f1 f3 f4 f5⟩
  self := fun A i s Q E st h => let ⟨⟨_, he⟩, _⟩ := st; wpAny_pyIter_enum he h
/-- of a list or a tuple -/
theorem enum_both {X : Cx} {e : Expr} {t : TE} {p pos tpos : Pos} {elts : List Expr} {kk : Nat} (hg : Gl X "enumerate") (hm : X.mg "enumerate" = none) (he : PE X e t) (hs : starEach [e] X.env = (false, eval e X.env) :: starEach [] X.env) (hs2 : starEach [e] X.env = [(false, eval e X.env)]) :
    PI X (.Tuple elts kk tpos) (.Call (.Name "enumerate" p) [e] [] pos) (fun σ H R => t σ H fun x H1 => (∃ a xs, x = .ref a ∧ SqL X.K H1 a xs ∧ R (Ite X.K a) H1) ∨ ∃ a xs, x = .ref a ∧ SqT X.K H1 a xs ∧ R (IteT X.K a) H1) := by
  refine ⟨fun pins s σ H R I h => ?_⟩
  have h' : tCons t tNil σ H fun vs H1 => match vs with
    | [x] => (∃ a xs, x = .ref a ∧ SqL X.K H1 a xs ∧ R (Ite X.K a) H1) ∨ ∃ a xs, x = .ref a ∧ SqT X.K H1 a xs ∧ R (IteT X.K a) H1
    | _ => False := h
  refine Call_ (ld_blt I hg hm boot_enumerate (PyProof.Rows.callWith_type1 (thn ((pa_cons he pa_nil hs).run pos pins s σ H _ I h') fun us s1 ⟨vs, H1, I1, r1, q⟩ => ?_) hs2 rfl))
  obtain ⟨x, ex, q⟩ : ∃ x, vs = [x] ∧ ((∃ a xs, x = .ref a ∧ SqL X.K H1 a xs ∧ R (Ite X.K a) H1) ∨ ∃ a xs, x = .ref a ∧ SqT X.K H1 a xs ∧ R (IteT X.K a) H1) := by
    match vs, q with
    | [x], q => exact ⟨x, rfl, q⟩
  subst ex
  have ages : ∀ b, b ∈ [s1.heap.objs.size + 1, s1.heap.objs.size] → s1.heap.objs.size ≤ b := fun b hb => by
    rcases List.mem_cons.mp hb with z | z
    · rw [z]; exact Nat.le_add_right _ _
    · rw [List.mem_singleton.mp z]; exact Nat.le_refl _
  rcases q with ⟨a, xs, ex, hq, qq⟩ | ⟨a, xs, ex, hq, qq⟩
  · subst ex
    rw [Vals.ref1 r1]
    obtain ⟨its, rv, pt, hz⟩ := I1.list hq
    refine call_enumerate_list pt.isList fun h2 he hit hsz hk => wpAny_pyIter_enum he ?_
    have I2 : Inv X pins σ H1 { s1 with heap := h2 } := I1.kept (t' := s1.toks) hk
    exact ⟨s1.heap.objs.size + 1, [s1.heap.objs.size + 1, s1.heap.objs.size], _, _, H1, rfl, I2, turn_enum a (s1.heap.objs.size + 1) s1.heap.objs.size, ⟨⟨.none, he⟩, hit, Nat.succ_ne_self _⟩, fun b hb => I1.fpOk (ages b hb) (I1.hok.fresh (ages b hb)), qq⟩
  · subst ex
    rw [Vals.ref1 r1]
    obtain ⟨its, rv, pt, hz⟩ := I1.tuple hq
    have al : a < s1.heap.objs.size := by obtain ⟨o, ho, _⟩ := pt; exact Heap.lt_size ho
    refine call_enum1 (begins_tuple a its.toArray) pt fun h2 he hit hk => wpAny_pyIter_enum he ?_
    have I2 : Inv X pins σ H1 { s1 with heap := h2 } := I1.kept (t' := s1.toks) hk
    exact ⟨s1.heap.objs.size + 1, [s1.heap.objs.size + 1, s1.heap.objs.size], _, _, H1, rfl, I2, turn_enumT a (s1.heap.objs.size + 1) s1.heap.objs.size (Nat.succ_ne_self _) (Nat.ne_of_lt al) (Nat.ne_of_gt (Nat.lt_succ_of_lt al)) its.toArray, ⟨⟨.none, he⟩, ⟨_, hit, rfl, rfl⟩⟩, fun b hb => I1.fpOk (ages b hb) (I1.hok.fresh (ages b hb)), qq⟩
end PL
end
section
set_option Elab.async false
set_option linter.all false
set_option maxRecDepth 100000
/-! PL11: enumerate, zip; more calls. -/
namespace PL
open PySem PySem.Spec L2

section
variable {X : Cx} {E : Ev} {W : XK} {lv : Lv} {k : Nat} {e e1 e2 : Expr} {es : List Expr} {x : Str} {pos p tpos : Pos} {m m1 m2 : PEnv → M D} {elts : List Expr} {kk : Nat}
theorem SqL.one {K : PySem.W.Frag} {H : Hp} {a : Addr} {vs us : List V} (h1 : H a = some (.lst vs)) (h : SqL K H a us) (hi : ∀ {xs ys}, SqL K H a xs → SqL K H a ys → xs = ys) : us = vs := hi h (SqL.of h1)
/-- what a new pair bears -/
theorem pair_rep {Mv : Addr → Prop} {H : Hp} {T : Addr} {x y : V} {a b : D} (hT : H T = none) (ra : Rep E Mv H x a) (rb : Rep E Mv H y b) : Same H (upd H T (.tup [x, y])) ∧ Rep E Mv (upd H T (.tup [x, y])) (.ref T) (.tup false [a, b]) := by
  refine ⟨fun b u e => by rw [upd_ne (ne_of_none e hT)]; exact e, .tup upd_same ?_⟩
  have h1 : RepA E Mv H [x, y] [a, b] := .cons ra (.cons rb .nil)
  exact h1.laidA hT
def enumL (l : List D) : List D := l.zipIdx.map fun p => .tup false [.int (p.2 : Int), p.1]
theorem enumL_get {l : List D} {i : Nat} {d : D} (h : (enumL l)[i]? = some d) : ∃ z, l[i]? = some z ∧ d = .tup false [.int (i : Int), z] := by
  unfold enumL at h
  rw [List.getElem?_map, List.getElem?_zipIdx, Option.map_eq_some_iff] at h
  obtain ⟨q, h1, rfl⟩ := h
  rw [Option.map_eq_some_iff] at h1
  obtain ⟨z, h1, rfl⟩ := h1
  exact ⟨z, h1, by simp⟩
theorem enumL_len (l : List D) : (enumL l).length = l.length := by unfold enumL; simp
def zipL (l r : List D) : List D := (l.zip r).map fun p => .tup false [p.1, p.2]
theorem zipL_get {l r : List D} {i : Nat} {d : D} (h : (zipL l r)[i]? = some d) : ∃ y z, l[i]? = some y ∧ r[i]? = some z ∧ d = .tup false [y, z] := by
  unfold zipL at h
  rw [List.getElem?_map, Option.map_eq_some_iff] at h
  obtain ⟨q, h1, rfl⟩ := h
  rw [List.getElem?_zip_eq_some] at h1
  exact ⟨q.1, q.2, h1.1, h1.2, rfl⟩
theorem zipL_len (l r : List D) : (zipL l r).length = min l.length r.length := by unfold zipL; simp
theorem yld_enum {Mv : Addr → Prop} {H : Hp} (m : MOk Mv H) {a : Addr} {vs : List V} {ds : List D} (h1 : H a = some (.lst vs)) (n : ¬ Mv a) (r : RepA E Mv H vs ds) : Yld E Mv (Ite E.K a) (enumL ds) H := by
  intro H' x
  have h2 := x _ _ h1 n
  have r2 := Rep.lift_ext x m r
  refine ⟨fun i d e => ?_, ⟨vs, SqL.of h2, by rw [enumL_len, r.length]; exact Nat.le_refl _⟩⟩
  obtain ⟨z, e0, rfl⟩ := enumL_get e
  obtain ⟨v, e1, rv⟩ := r2.get e0
  refine ⟨⟨vs, v, SqL.of h2, e1⟩, fun y H'' q => ?_⟩
  obtain ⟨T, u, rfl, hT, rfl, q⟩ := q
  have := q vs (SqL.of h2)
  rw [e1] at this
  cases this
  exact pair_rep hT (.int _) rv
theorem yld_zip {Mv : Addr → Prop} {H : Hp} (m : MOk Mv H) {a b : Addr} {vs us : List V} {ds es : List D} (h1 : H a = some (.lst vs)) (n : ¬ Mv a) (r : RepA E Mv H vs ds) (g1 : H b = some (.lst us)) (n2 : ¬ Mv b) (r2 : RepA E Mv H us es) : Yld E Mv (Itz E.K a b) (zipL ds es) H := by
  intro H' x
  have h2 := x _ _ h1 n
  have g2 := x _ _ g1 n2
  refine ⟨fun i d e => ?_, ⟨vs, us, SqL.of h2, SqL.of g2, ?_⟩⟩
  · obtain ⟨y, z, e0, e3, rfl⟩ := zipL_get e
    obtain ⟨v, e1, rv⟩ := (Rep.lift_ext x m r).get e0
    obtain ⟨u, e2, ru⟩ := (Rep.lift_ext x m r2).get e3
    refine ⟨⟨vs, us, v, u, SqL.of h2, SqL.of g2, e1, e2⟩, fun y H'' q => ?_⟩
    obtain ⟨T, v', u', rfl, hT, rfl, q1, q2⟩ := q
    have := q1 vs (SqL.of h2)
    rw [e1] at this
    cases this
    have := q2 us (SqL.of g2)
    rw [e2] at this
    cases this
    exact pair_rep hT rv ru
  · rw [zipL_len, r.length, r2.length]
    omega
theorem yld_zipT {Mv : Addr → Prop} {H : Hp} (m : MOk Mv H) {a b : Addr} {vs us : List V} {ds es : List D} (h1 : SqT E.K H a vs) (r : RepA E Mv H vs ds) (g1 : SqT E.K H b us) (r2 : RepA E Mv H us es) : Yld E Mv (RZ.ItzT E.K a b) (zipL ds es) H := by
  intro H' x
  have h2 := SqT.ext x m h1
  have g2 := SqT.ext x m g1
  refine ⟨fun i d e => ?_, ⟨vs, us, h2, g2, ?_⟩⟩
  · obtain ⟨y, z, e0, e3, rfl⟩ := zipL_get e
    obtain ⟨v, e1, rv⟩ := (Rep.lift_ext x m r).get e0
    obtain ⟨u, e2, ru⟩ := (Rep.lift_ext x m r2).get e3
    refine ⟨⟨vs, us, v, u, h2, g2, e1, e2⟩, fun y H'' q => ?_⟩
    obtain ⟨T, v', u', rfl, hT, rfl, q1, q2⟩ := q
    have := q1 vs h2
    rw [e1] at this
    cases this
    have := q2 us g2
    rw [e2] at this
    cases this
    exact pair_rep hT rv ru
  · rw [zipL_len, r.length, r2.length]
    omega
theorem yld_enumT {Mv : Addr → Prop} {H : Hp} (m : MOk Mv H) {a : Addr} {vs : List V} {ds : List D} (h1 : SqT E.K H a vs) (r : RepA E Mv H vs ds) : Yld E Mv (IteT E.K a) (enumL ds) H := by
  intro H' x
  have h2 := SqT.ext x m h1
  refine ⟨fun i d e => ?_, ⟨vs, h2, by rw [enumL_len, r.length]; exact Nat.le_refl _⟩⟩
  obtain ⟨z, e0, rfl⟩ := enumL_get e
  obtain ⟨v, e1, rv⟩ := (Rep.lift_ext x m r).get e0
  refine ⟨⟨vs, v, h2, e1⟩, fun y H'' q => ?_⟩
  obtain ⟨T, u, rfl, hT, rfl, q⟩ := q
  have := q vs h2
  rw [e1] at this
  cases this
  exact pair_rep hT (.int _) rv
def enumO : D → Option (List D)
  | .lst l => some (enumL l)
  | .tup _ l => some (enumL l)
  | _ => none
def zipO : D → D → Option (List D)
  | .lst l, .lst r => some (zipL l r)
  | .tup _ l, .tup _ r => some (zipL l r)
  | _, _ => none
theorem i_enum (c : Ctx X E W k) (hm : X.mg "enumerate" = none) (h : CE X E W .full e m) (hg : Gl X "enumerate" := by rfl) (hs : starEach [e] X.env = (false, eval e X.env) :: starEach [] X.env := by rfl) (hs2 : starEach [e] X.env = [(false, eval e X.env)] := by rfl) :
    CI X E W (.Tuple elts kk tpos) (.Call (.Name "enumerate" p) [e] [] pos) (fun ρ => m ρ >>= fun d => lift (enumO d)) := by
  obtain ⟨t, pp, k1⟩ := h
  have both : PI X (.Tuple elts kk tpos) (.Call (.Name "enumerate" p) [e] [] pos) (fun σ H R => t σ H fun x H1 => (∃ a xs, x = .ref a ∧ SqL X.K H1 a xs ∧ R (Ite X.K a) H1) ∨ ∃ a xs, x = .ref a ∧ SqT X.K H1 a xs ∧ R (IteT X.K a) H1) :=
    enum_both hg hm pp hs hs2
  refine ⟨_, both, fun σ H ρ s M0 A R0 R dl h => ?_⟩
  refine k1 σ H ρ s M0 A _ R dl (h.bind.mono fun d s1 H1 e1 x1 d1 h v r => ?_)
  have R1 := R.ext x1 d1
  obtain ⟨ds, e2, g⟩ := h.lift
  cases d with
  | lst l =>
    cases e2
    have r : Rep E (Own M0 A) H1 v (.lst l) := r
    cases r with
    | lst q1 q2 q3 =>
      rw [← c.K]
      exact .inl ⟨_, _, rfl, SqL.of q1, g H1 Ext.refl d1 _ (yld_enum R1.mok q1 q2 q3)⟩
  | tup k l =>
    cases e2
    have r : Rep E (Own M0 A) H1 v (.tup k l) := r
    rw [← c.K]
    cases r with
    | tup q1 q2 => exact .inr ⟨_, _, rfl, .inl (.inl q1), g H1 Ext.refl d1 _ (yld_enumT R1.mok (.inl (.inl q1)) q2)⟩
    | tupK q1 q2 => exact .inr ⟨_, _, rfl, q1.sq, g H1 Ext.refl d1 _ (yld_enumT R1.mok q1.sq q2)⟩
  | _ => cases e2
theorem i_zip (c : Ctx X E W k) (hm : X.mg "zip" = none) (h : CE X E W .full e1 m1) (h2 : CE X E W .full e2 m2) (hg : Gl X "zip" := by rfl) (hs : starEach [e1, e2] X.env = (false, eval e1 X.env) :: starEach [e2] X.env := by rfl) (hs2 : starEach [e2] X.env = (false, eval e2 X.env) :: starEach [] X.env := by rfl) (hpl : (backTo pos (starEach [e2] X.env)).any (·.1) = false := by rfl) :
    CI X E W (.Tuple elts kk tpos) (.Call (.Name "zip" p) [e1, e2] [] pos) (fun ρ => m1 ρ >>= fun d => m2 ρ >>= fun z => lift (zipO d z)) := by
  obtain ⟨t, pp, k1⟩ := h
  obtain ⟨t2, pp2, k2⟩ := h2
  refine ⟨_, RZ.pi_zipA hg hm (pa_cons pp (pa_cons pp2 pa_nil hs2) hs) hs hpl, fun σ H ρ s M0 A R0 R dl h => ?_⟩
  refine k1 σ H ρ s M0 A _ R dl (h.bind.mono fun d s1 H1 e1 x1 d1 h v r => ?_)
  have R1 := R.ext x1 d1
  refine k2 σ H1 ρ s1 M0 A _ R1 d1 (h.bind.mono fun d2 s2 H2 _ x2 dd2 h v2 r2 => ?_)
  have R2 := R1.ext x2 dd2
  have r := RepL.ext R1 x2 r
  obtain ⟨ds, e3, g⟩ := h.lift
  cases d with
  | lst l =>
    cases d2 with
    | lst l2 =>
      cases e3
      have r : Rep E (Own M0 A) H2 v (.lst l) := r
      have r2 : Rep E (Own M0 A) H2 v2 (.lst l2) := r2
      cases r with
      | lst q1 q2 q3 =>
        cases r2 with
        | lst p1 p2 p3 =>
          rw [← c.K]
          exact ⟨_, _, _, _, rfl, .inl ⟨SqL.of q1, SqL.of p1, g H2 Ext.refl dd2 _ (yld_zip R2.mok q1 q2 q3 p1 p2 p3)⟩⟩
    | _ => cases e3
  | tup b l =>
    cases d2 with
    | tup b2 l2 =>
      cases e3
      obtain ⟨a1, vs1, rfl, q1, q2⟩ := sq_of r
      obtain ⟨a2, vs2, rfl, p1, p2⟩ := sq_of r2
      rw [← c.K]
      exact ⟨_, _, _, _, rfl, .inr ⟨q1, p1, g H2 Ext.refl dd2 _ (yld_zipT R2.mok q1 q2 p1 p2)⟩⟩
    | _ => cases e3
  | _ => cases e3
end
end PL
end
section
set_option Elab.async false
set_option linter.all false
set_option maxRecDepth 100000
/-! PL12: sorted. -/
namespace PL
open PySem PySem.Spec L2 PyProof.Rows
open PySem.W (EachIs AllAlike Sortable alike dataLe sorted_data)

def isTup1 : PyData → Bool
  | .tuple (_ :: _) => true
  | _ => false
def isOther : PyData → Bool
  | .none => false
  | .tuple _ => false
  | _ => true
theorem sortable_of {ps : List PyData} (h : (ps.all isTup1 || ps.all isOther) = true) : Sortable ps := by
  rw [Bool.or_eq_true] at h
  rcases h with h | h
  · refine .inl fun d hd => ?_
    have q := List.all_eq_true.mp h d hd
    unfold isTup1 at q
    split at q
    · exact ⟨_, _, rfl⟩
    · cases q
  · refine .inr fun d hd => ?_
    have q := List.all_eq_true.mp h d hd
    refine ⟨fun e => ?_, fun xs e => ?_⟩
    · subst e
      cases q
    · subst e
      cases q
theorem alike_of {ps : List PyData} (h : (ps.all fun d => ps.all fun d' => alike d d') = true) : AllAlike ps := fun d hd d' hd' => List.all_eq_true.mp (List.all_eq_true.mp h d hd) d' hd'
theorem depth_mem {ps : List PyData} {d : PyData} (h : d ∈ ps) : d.depth ≤ PyData.depthAll ps := by
  induction ps with
  | nil => cases h
  | cons q r ih =>
    simp only [PyData.depthAll]
    rcases List.mem_cons.mp h with rfl | h
    · omega
    · have := ih h
      omega
def pyOk (ps : List PyData) : Bool := (ps.all fun d => ps.all fun d' => alike d d') && (ps.all isTup1 || ps.all isOther) && decide (PyData.depthAll ps ≤ 60)

theorem each_zip {X : Cx} {pins : List (Addr × Obj)} {σ : L2.St} {H : Hp} {s : Shared} (I : Inv X pins σ H s) : ∀ {vs : List V} {us : List Value} {ps : List PyData}, Vals vs us → DpAll X.K H vs ps →
    EachIs (fun (u : Value) (b : V × PyData) => RelV b.1 u) us (vs.zip ps) ∧ EachIs (fun (u : Value) (b : V × PyData) => ∃ as, Reads s.heap u b.2 as) us (vs.zip ps)
  | _, _, _, .nil, .nil => ⟨.nil, .nil⟩
  | _, _, _, .cons r t, .cons d ds => by
    obtain ⟨h1, h2⟩ := each_zip I t ds
    exact ⟨.cons r h1, .cons (Dp.reads I _ _ _ d r) h2⟩
theorem dpall_len {K : PySem.W.Frag} {H : Hp} : ∀ {vs : List V} {ps : List PyData}, DpAll K H vs ps → vs.length = ps.length
  | _, _, .nil => rfl
  | _, _, .cons _ t => congrArg (· + 1) (dpall_len t)
theorem vals_each : ∀ {us : List Value} {bs : List (V × PyData)}, EachIs (fun (u : Value) (b : V × PyData) => RelV b.1 u) us bs → Vals (bs.map (·.1)) us
  | _, _, .nil => .nil
  | _, _, .cons r t => .cons r (vals_each t)
theorem zip_snd {α β : Type} : ∀ {l : List α} {r : List β}, l.length = r.length → (l.zip r).map (·.2) = r
  | [], [], _ => rfl
  | _ :: l, _ :: r, h => by simp [zip_snd (l := l) (r := r) (by simpa using h)]
theorem zip_fst {α β : Type} : ∀ {l : List α} {r : List β}, l.length = r.length → (l.zip r).map (·.1) = l
  | [], [], _ => rfl
  | _ :: l, _ :: r, h => by simp [zip_fst (l := l) (r := r) (by simpa using h)]
def rSortD (K : PySem.W.Frag) : List V → Hp → VK → Prop := fun xs H Q => ∃ (a : Addr) (vs : List V) (ps : List PyData), xs = [.ref a] ∧ SqL K H a vs ∧ DpAll K H vs ps ∧ pyOk ps = true ∧ ∀ p, H p = none → Q (.ref p) (upd H p (.lst (((vs.zip ps).mergeSort (dataLe false (·.2))).map (·.1))))
theorem cr_sortD {X : Cx} (hu : X.A.units + 65 < cLine) : CallR X (.builtin "sorted") (rSortD X.K) := by
  intro pins s σ H xs us Q I r h
  obtain ⟨a, vs, ps, rfl, hs, hd, ok, q⟩ := h
  obtain ⟨its, rv, hl, hz⟩ := I.list hs
  rw [Vals.ref1 r]
  have e1 := dpall_len hd
  have el : (vs.zip ps).length = vs.length := by simp [e1]
  unfold pyOk at ok
  rw [Bool.and_eq_true, Bool.and_eq_true] at ok
  obtain ⟨⟨o1, o2⟩, o3⟩ := ok
  have o3 := of_decide_eq_true o3
  obtain ⟨h1, h2⟩ := each_zip I rv hd
  have em : (vs.zip ps).map (·.2) = ps := zip_snd e1
  refine sorted_data (enc := fun b : V × PyData => b.2) hl.isList h1 h2 (by rw [em]; exact alike_of o1) (by rw [em]; exact sortable_of o2) (by rw [el]; exact hz) (fun b hb => ?_) fun out ho he => ?_
  · have : b.2 ∈ ps := by rw [← em]; exact List.mem_map_of_mem (f := (·.2)) hb
    have := depth_mem this
    omega
  · obtain ⟨ep, he'⟩ := PyProof.Rows.sortedAll_at s.heap its out.toArray
    have hlen : (((vs.zip ps).mergeSort (dataLe false (·.2))).map (·.1)).length ≤ sizeLine := by rw [List.length_map, List.length_mergeSort, el]; exact hz
    refine ⟨.ref _, upd H (s.heap.objs.size + 1) (.lst _), I.laid (t' := s.toks) (fun _ _ => PyProof.Rows.sortedAll_old) (Nat.le_succ _) ⟨hlen, out, ep, vals_each he, he'⟩, rfl, q _ (I.hok.fresh (Nat.le_succ _))⟩

/-! on plain data -/
def encD (d : D) : PyData := (toPy d).getD .none
def sortL (l : List D) : List D := l.mergeSort (dataLe false encD)
def sortO : D → Option (List D)
  | .lst l => (toPyA l).bind fun ps => if pyOk ps = true then some (sortL l) else none
  | _ => none
theorem toPyA_enc : ∀ {l : List D} {ps : List PyData}, toPyA l = some ps → l.map encD = ps
  | [], _, h => by simp only [toPyA, Option.some.injEq] at h; subst h; rfl
  | d :: l, ps, h => by
    rw [toPyA, Option.bind_eq_some_iff] at h
    obtain ⟨p, e1, e⟩ := h
    rw [Option.map_eq_some_iff] at e
    obtain ⟨q, e2, rfl⟩ := e
    rw [List.map_cons, toPyA_enc e2]
    unfold encD
    rw [e1]
    rfl
theorem repA_pairs {E : Ev} {Mv : Addr → Prop} {H : Hp} : ∀ {bs : List (V × D)}, (∀ b ∈ bs, Rep E Mv H b.1 b.2) → RepA E Mv H (bs.map (·.1)) (bs.map (·.2))
  | [], _ => .nil
  | b :: bs, h => .cons (h b (by simp)) (repA_pairs fun c hc => h c (by simp [hc]))
theorem pairs_repA {E : Ev} {Mv : Addr → Prop} {H : Hp} : ∀ {vs : List V} {ds : List D}, RepA E Mv H vs ds → ∀ b ∈ vs.zip ds, Rep E Mv H b.1 b.2
  | _, _, .nil, b, h => by cases h
  | _, _, .cons r t, b, h => by
    rcases List.mem_cons.mp h with rfl | h
    · exact r
    · exact pairs_repA t b h
/-- what is sorted bears what is sorted -/
theorem sort_rep {E : Ev} {Mv : Addr → Prop} {H : Hp} {vs : List V} {ds : List D} (r : RepA E Mv H vs ds) : RepA E Mv H (((vs.zip (ds.map encD)).mergeSort (dataLe false (·.2))).map (·.1)) (sortL ds) := by
  have hl := r.length
  have e1 : (vs.zip (ds.map encD)).mergeSort (dataLe false (·.2)) = ((vs.zip ds).mergeSort (dataLe false fun b => encD b.2)).map fun b => (b.1, encD b.2) := by
    rw [List.map_mergeSort (s := dataLe false (·.2))]
    · congr 1
      rw [List.zip_map_right]
      rfl
    · intro a _ b _
      rfl
  have e2 : sortL ds = ((vs.zip ds).mergeSort (dataLe false fun b => encD b.2)).map (·.2) := by
    rw [List.map_mergeSort (s := dataLe false encD)]
    · rw [zip_snd hl]; rfl
    · intro a _ b _
      rfl
  rw [e1, e2, List.map_map]
  exact repA_pairs fun b hb => pairs_repA r b ((List.mergeSort_perm _ _).subset hb)
section
variable {X : Cx} {E : Ev} {W : XK} {lv : Lv} {k : Nat} {e e1 e2 : Expr} {es : List Expr} {x : Str} {pos p tpos : Pos} {m m1 m2 : PEnv → M D}
theorem k_sort (hK : E.K = X.K) : CallF E W (rSortD X.K) (arg1F fun d => lift (sortO d)) := by
  refine .one fun σ H ρ s M0 A Q v d R dl r h => ?_
  obtain ⟨z, e, g⟩ := h.lift
  rw [← hK]
  cases d with
  | lst l =>
    have e : ((toPyA l).bind fun ps => if pyOk ps = true then some (sortL l) else none) = some z := e
    rw [Option.bind_eq_some_iff] at e
    obtain ⟨ps, e1, e2⟩ := e
    split at e2
    · rename_i ok
      cases e2
      obtain ⟨a, vs, rfl, h1, r1⟩ := sh_lst r
      have en := toPyA_enc e1
      refine ⟨a, vs, ps, rfl, SqL.of h1, r1.dp e1, ok, fun q hq => ?_⟩
      subst en
      refine g _ (Ext.laid hq) (dl.laid hq) q _ hq upd_same ?_
      exact (sort_rep r1).laidN hq
    · cases e2
  | _ => cases e
theorem g_sorted (c : Ctx X E W k) (hm : X.mg "sorted" = none) (ha : CE X E W .sh e m) (hg : Gl X "sorted" := by rfl) (he : starEach [e] X.env = (false, eval e X.env) :: starEach [] X.env := by rfl) (hpl : (backTo pos (starEach [] X.env)).any (·.1) = false := by rfl) :
    CF X E W (.Call (.Name "sorted" p) [e] [] pos) (fun ρ => (m ρ >>= fun d => pure [] >>= fun l => pure (d :: l)) >>= arg1F fun d => lift (sortO d)) :=
  f_callB (cr_sortD c.u65) (k_sort c.K) hm rfl (a_cons ha a_nil he) hg (by decide) (by decide) he hpl
end
end PL
end
section
set_option Elab.async false
set_option linter.all false
set_option maxRecDepth 100000
/-! PL13: tuples whose object is known; t.index, min, max, sum. -/
namespace PL
open PySem PySem.Spec L2 PyProof.Rows
section
variable {X : Cx}
theorem PE.or {e : Expr} {t t' : TE} (h : PE X e t) (h' : PE X e t') : PE X e (fun σ H Q => t σ H Q ∨ t' σ H Q) :=
  ⟨fun pins s σ H Q I q => q.elim (fun q => h.run pins s σ H Q I q) fun q => h'.run pins s σ H Q I q⟩
def tTupB (t : TA) : TE := fun σ H Q => t σ H fun xs H1 => xs.length ≤ sizeLine ∧ ∀ (q : Addr) (o : Obj), H1 q = none → o.dict = none → Q (.ref q) (upd H1 q (.frz o (.tup xs)))
theorem pe_tupB {es : List Expr} {pos : Pos} {t : TA} {x1} (h : PA X es t) : PE X (.Tuple es x1 pos) (tTupB t) := by
  refine ⟨fun pins s σ H Q I hq => ?_⟩
  refine wpAny_Tuple_spliced (thn (h.run pos pins s σ H _ I hq) fun us s1 ⟨xs, H1, I1, r, z, q⟩ => ⟨by rw [← r.length]; exact z, ?_⟩)
  have hf : H1 s1.heap.objs.size = none := I1.hok.fresh (Nat.le_refl _)
  refine ⟨.ref s1.heap.objs.size, upd H1 s1.heap.objs.size (.frz { cls := .type "tuple", data := .seq us.toArray } (.tup xs)), I1.laid (t' := s1.toks) (fun b u e => Heap.get?_push_of_some _ e) (Nat.le_refl _) ?_, rfl, q _ _ hf rfl⟩
  exact ⟨Heap.get?_push_size _ rfl, z, us, r, ⟨_, Heap.get?_push_size _ rfl, rfl, _, rfl⟩⟩
/-- a tuple's object, that has no dict -/
def Bare (K : PySem.W.Frag) (H : Hp) (a : Addr) : Prop := (∃ (o : Obj), K.lookup a = some o ∧ o.dict = none) ∨ ∃ (o : Obj) (xs : List V), o.dict = none ∧ H a = some (.frz o (.tup xs))
theorem FtT.bare {K : PySem.W.Frag} {H : Hp} {a : Addr} {xs : List V} (h : FtT K H a xs) : Bare K H a := by
  rcases h with ⟨o, its, n, h1, h2, h3⟩ | ⟨o, h1, h2⟩
  · exact .inl ⟨o, h1, h2⟩
  · exact .inr ⟨o, xs, h1, h2⟩
theorem Bare.at {K : PySem.W.Frag} {H : Hp} {pins : List (Addr × Obj)} {σ : L2.St} {s : Shared} {a : Addr} (I : Inv X pins σ H s) (h : Bare X.K H a) : ∃ ob, s.heap.get? a = some ob ∧ ob.dict = none := by
  rcases h with ⟨o, h1, h2⟩ | ⟨o, xs, h1, h2⟩
  · exact ⟨o, I.kIn a o h1, h2⟩
  · obtain ⟨h3, _⟩ := I.hok _ _ h2
    exact ⟨o, h3, h1⟩
def tTM (K : PySem.W.Frag) (r : V → List V → Hp → VK → Prop) (to : TE) (t : TA) : TE := fun σ H Q => to σ H fun x H1 => (∃ a xs, x = .ref a ∧ SqT K H1 a xs ∧ Bare K H1 a) ∧ t σ H1 fun xs H2 => r x xs H2 Q
theorem pe_tm {o e : Expr} {es : List Expr} {to : TE} {t : TA} {name : Str} {apos cpos : Pos} {id : String} {r : V → List V → Hp → VK → Prop} (slot : PySem.Slot "tuple" name id) (hty : typeOf (.builtin id) = pure (.type "method_descriptor")) (hm : MtR X id r) (ho : PE X o to) (ha : PA X (e :: es) t)
    (hbase : attributeBase o name X.env (eval o X.env) = eval o X.env := by rfl)
    (hfew : ((backTo cpos (starEach (e :: es) X.env)).all (fun x => !x.1) && (backToKw cpos (keywordEach [] X.env)).all (fun x => x.1.isSome)
      && decide ((e :: es).length + ([] : List Keyword).length + (if ([] : List Keyword).isEmpty then 0 else 1) < 30)) = true := by rfl)
    (hline : (apos.endLine == cpos.line) = true := by rfl) (hs : starEach (e :: es) X.env = (false, eval e X.env) :: starEach es X.env := by rfl) (hplain : (backTo cpos (starEach es X.env)).any (·.1) = false := by rfl) :
    PE X (.Call (.Attribute o name apos) (e :: es) [] cpos) (tTM X.K r to t) := by
  refine ⟨fun pins s σ H Q I h => ?_⟩
  refine wpAny_Call_method_late hbase hfew hline rfl (thn (ho.run pins s σ H _ I h) fun v s1 ⟨x, H1, I1, r1, ⟨a, xs, ex, hs1, hb⟩, q1⟩ => ?_)
  subst ex
  obtain rfl : v = Value.ref a := r1
  obtain ⟨its, rv, ⟨o1, ho1, hc1, _⟩, _⟩ := I1.tuple hs1
  have hd := Bare.at (K := X.K) I1 hb
  refine ⟨"tuple", id, PySem.F.plainAttrs_tuple, slot, hty, ⟨o1, ho1, hc1⟩, fun b e => by cases e; exact hd, ?_⟩
  have hA := ha.run cpos pins s1 σ H1 _ I1 q1
  rw [hs] at hA ⊢
  refine Calls.callWith_builtin (by show (false || (backTo cpos (starEach es X.env)).any (·.1)) = false; rw [hplain] <;> rfl) (Calls.evalArgs_plain ?_)
  exact thn hA fun us s2 ⟨vs, H2, I2, r2, q2⟩ => hm pins s2 σ H2 (.ref a) vs (.ref a) us Q I2 rfl r2 q2
/-- t.index(x) -/
def rIndexT (K : PySem.W.Frag) : V → List V → Hp → VK → Prop := fun x xs H Q => ∃ (a : Addr) (y : V) (d : PyData) (ds : List PyData) (j : Nat), x = V.ref a ∧ xs = [y] ∧ Dp K H (V.ref a) (.tuple ds) ∧ Dp K H y d ∧
  SeqAt.shaped (.tuple ds) = true ∧ SeqAt.shaped d = true ∧ ds.findIdx? (fun z => PyData.eqv z d) = some j ∧ Q (.int (j : Nat)) H
theorem mt_indexT (hu : X.A.units + 65 < cLine) : MtR X "tuple.index" (rIndexT X.K) := by
  intro pins s σ H x xs v us Q I rx rxs h
  obtain ⟨a, y, d, ds, j, rfl, rfl, hl, hy, sl, sd, hj0, q⟩ := h
  cases rx
  cases rxs with
  | cons ry rt =>
    rename_i uy ut
    cases rt
    rw [List.findIdx?_eq_some_iff_getElem] at hj0
    obtain ⟨hjd, hzj, hno⟩ := hj0
    obtain ⟨bs, r1⟩ := Dp.reads I d y uy hy ry
    have hxs : PyData.canLayAll0 ds = true := SeqAt.canLay_of_shaped sl
    have hroom : X.A.units + 1 + min (PyData.depthAll ds) d.depth < cLine := room_in_shaped sd hu
    cases hl with
    | tup hs ha =>
      obtain ⟨its, rv, ⟨⟨cls, dd, data, sls⟩, ho, hc, n, hdt⟩, hlen⟩ := I.tuple hs
      simp only at hc hdt
      subst hc hdt
      obtain ⟨as, h4⟩ := Dp.readsAll I ds _ its ha rv
      have hn : its.length = ds.length := SeqAt.ReadsAll.length ds its as h4
      have hmap : its.map (SeqAt.readOf s.heap) = ds := SeqAt.readsAll_map ds its as hxs h4
      have hjl : j < its.length := by omega
      have hj : j < its.toArray.size := by simpa using hjl
      have at_ : ∀ (m : Nat) (hm : m < its.toArray.size) (z' : PyData), ds[m]? = some z' → SeqAt.readOf s.heap its.toArray[m] = z' := by
        intro m hm z' hz'
        have hml : m < its.length := by simpa using hm
        rw [← hmap, List.getElem?_map, List.getElem?_eq_getElem hml] at hz'
        have e1 : SeqAt.readOf s.heap its[m] = z' := Option.some.inj (show some (SeqAt.readOf s.heap its[m]) = some z' from hz')
        simpa using e1
      have heq := SeqAt.items_eqAt (A := X.A) (vs := its.toArray) (show ReadsAll s.heap its.toArray.toList ds as from h4) r1 hxs (SeqAt.canLay_of_shaped sd) hroom
      refine call_meets PySem.F.slot_tuple_index ⟨_, ho, rfl⟩ PySem.F.entry_tuple_index (PySem.F.args_tuple_index_2 _ _)
        (PySem.SeqAt.tuple_index2_found a its.toArray n dd sls uy (fun m => if h : m < its.toArray.size then PyData.eqv (SeqAt.readOf s.heap its.toArray[m]) d else false) j hj (Nat.zero_le _) hj ?_ ?_) ⟨ho, fun m hm => ?_, ?_⟩
      · rw [dif_pos hj, at_ j hj ds[j] (List.getElem?_eq_getElem hjd)]
        exact hzj
      · intro m hm _ hmj
        rw [dif_pos hm, at_ m hm ds[m] (List.getElem?_eq_getElem (by omega))]
        have := hno m hmj
        simpa using this
      · rw [dif_pos hm]
        exact heq _ (by simp)
      · exact ⟨.int (j : Nat), H, I.tok _, ⟨_, rfl⟩, q⟩
end

/-! on plain data -/
def mkTupB (l : List D) : M D := if l.length ≤ sizeLine then pure (.tup true l) else fail
section
variable {X : Cx} {E : Ev} {W : XK} {lv : Lv} {k : Nat} {e e1 e2 : Expr} {es : List Expr} {x : Str} {pos p tpos : Pos} {m m1 m2 : PEnv → M D}
theorem new_tupB {E : Ev} {Mv : Addr → Prop} {H : Hp} {vs : List V} {ds : List D} (h : RepA E Mv H vs ds) (k : MOk Mv H) {p : Addr} {o : Obj} (hp : H p = none) (ho : o.dict = none) : Rep E Mv (upd H p (.frz o (.tup vs))) (.ref p) (.tup true ds) :=
  .tupK (.inr ⟨o, ho, upd_same⟩) (h.laid k hp)
theorem c_tupB {es : List Expr} {j : Nat} {pos : Pos} {m : PEnv → M (List D)} (h : CA X E W .full es m) : CE X E W lv (.Tuple es j pos) (fun ρ => m ρ >>= mkTupB) := by
  refine CE.any ?_
  obtain ⟨t, p, k⟩ := h
  refine ⟨_, pe_tupB p, fun σ H ρ s M0 A Q R dl h => ?_⟩
  refine k σ H ρ s M0 A _ R dl (h.bind.mono fun l s1 H1 _ x1 d1 h vs rs => ?_)
  have R1 := R.ext x1 d1
  have ra := pairedA rs
  unfold mkTupB at h
  by_cases hl : l.length ≤ sizeLine
  · rw [if_pos hl] at h
    refine ⟨by rw [ra.length]; exact hl, fun q o hq ho => ?_⟩
    exact h.okAt (Ext.laid hq) (d1.laid hq) _ (new_tupB ra R1.mok hq ho)
  · rw [if_neg hl] at h
    exact h.elim
def idxPlace (ps : List PyData) (ok : Bool) (q : PyData) : Option D := if ok = true ∧ SeqAt.shaped q = true then (ps.findIdx? fun z => PyData.eqv z q).map fun j => .int (j : Nat) else none
def idxO (d x : D) : Option D := match d with
  | .lst l => (toPyA l).bind fun ps => (toPy x).bind fun q => idxPlace ps (SeqAt.shaped (.list ps)) q
  | .tup true l => (toPyA l).bind fun ps => (toPy x).bind fun q => idxPlace ps (SeqAt.shaped (.tuple ps)) q
  | _ => none
def idxAble : D → Option Unit
  | .lst _ => some ()
  | .tup true _ => some ()
  | _ => none
theorem idxPlace_some {ps : List PyData} {ok : Bool} {q : PyData} {z : D} (h : idxPlace ps ok q = some z) : ok = true ∧ SeqAt.shaped q = true ∧ ∃ j, (ps.findIdx? fun z => PyData.eqv z q) = some j ∧ z = .int (j : Nat) := by
  unfold idxPlace at h
  split at h
  · rename_i ok
    rw [Option.map_eq_some_iff] at h
    obtain ⟨j, h1, rfl⟩ := h
    exact ⟨ok.1, ok.2, j, h1, rfl⟩
  · cases h
theorem c_index {apos cpos : Pos} (c : Ctx X E W k) (ha : CE X E W .sh e1 m1) (hb : CE X E W .sh e2 m2)
    (hbase : attributeBase e1 "index" X.env (eval e1 X.env) = eval e1 X.env := by rfl)
    (hfew : ((backTo cpos (starEach [e2] X.env)).all (fun x => !x.1) && (backToKw cpos (keywordEach [] X.env)).all (fun x => x.1.isSome)
      && decide (([e2] : List Expr).length + ([] : List Keyword).length + (if ([] : List Keyword).isEmpty then 0 else 1) < 30)) = true := by rfl)
    (hline : (apos.endLine == cpos.line) = true := by rfl) (hs : starEach [e2] X.env = (false, eval e2 X.env) :: starEach [] X.env := by rfl) (hplain : (backTo cpos (starEach [] X.env)).any (·.1) = false := by rfl) :
    CE X E W lv (.Call (.Attribute e1 "index" apos) [e2] [] cpos) (fun ρ => m1 ρ >>= fun a => lift (idxAble a) >>= fun _ => m2 ρ >>= fun b => lift (idxO a b)) := by
  refine CE.any ?_
  obtain ⟨ta, pa, k1⟩ := ha
  obtain ⟨tb, pb, k2⟩ := hb
  refine ⟨_, PE.or (pe_bm PySem.F.plainAttrs_list PySem.F.slot_list_index PySem.F.type_list_index (mt_indexD c.u65) pa (pa_cons pb pa_nil hs) hbase hfew hline hs hplain)
    (pe_tm PySem.F.slot_tuple_index PySem.F.type_tuple_index (mt_indexT c.u65) pa (pa_cons pb pa_nil hs) hbase hfew hline hs hplain), fun σ H ρ s M0 A Q R dl h => ?_⟩
  have cs : (∃ l s1, m1 ρ s = .ok (.lst l) s1) ∨ ¬ ∃ l s1, m1 ρ s = .ok (.lst l) s1 := Classical.em _
  rcases cs with ⟨l, s1, e0⟩ | cs
  · refine .inl (k1 σ H ρ s M0 A _ R dl (h.bind.mono fun a s1 H1 e1 x1 d1 h v1 r1 => ?_))
    rw [e0] at e1
    cases e1
    have R1 := R.ext x1 d1
    have h := h.bind.okAt Ext.refl d1
    obtain ⟨a, vs, rfl, q1, _⟩ := sh_lst r1
    refine ⟨.inl ⟨rfl, vs, SqL.of q1⟩, ?_⟩
    refine k2 σ H1 ρ s1 M0 A _ R1 d1 (h.bind.mono fun b s2 H2 _ x2 d2 h v2 r2 => ?_)
    have R2 := R1.ext x2 d2
    obtain ⟨z, e2, g⟩ := h.lift
    have e2 : ((toPyA l).bind fun ps => (toPy b).bind fun q => idxPlace ps (SeqAt.shaped (.list ps)) q) = some z := e2
    rw [Option.bind_eq_some_iff] at e2
    obtain ⟨ps, hps, e2⟩ := e2
    rw [Option.bind_eq_some_iff] at e2
    obtain ⟨q, hq, e2⟩ := e2
    obtain ⟨o1, o2, j, hj, rfl⟩ := idxPlace_some e2
    have dpl : Dp E.K H2 (.ref a) (.list ps) := (r1.ext R1 x2).dp (by rw [toPy, hps]; rfl)
    rw [List.findIdx?_eq_some_iff_getElem] at hj
    obtain ⟨hjd, hzj, hno⟩ := hj
    rw [← c.K]
    refine ⟨a, v2, q, ps, j, ps[j], rfl, rfl, dpl, r2.dp hq, o1, o2, List.getElem?_eq_getElem hjd, hzj, fun m z' hm hz => ?_, g H2 Ext.refl d2 _ (Rep.int _)⟩
    have h3 := hno m hm
    have hml : m < ps.length := by omega
    rw [List.getElem?_eq_getElem hml] at hz
    cases hz
    simpa using h3
  · refine .inr (k1 σ H ρ s M0 A _ R dl (h.bind.mono fun a s1 H1 e1 x1 d1 h v1 r1 => ?_))
    have R1 := R.ext x1 d1
    obtain ⟨_, e3, h⟩ := h.bind.lift
    have h := h H1 Ext.refl d1
    have ist : ∃ l, a = .tup true l := by
      cases a with
      | tup kb l =>
        cases kb with
        | true => exact ⟨l, rfl⟩
        | false => cases e3
      | lst l => exact absurd ⟨l, s1, e1⟩ cs
      | _ => cases e3
    obtain ⟨l, rfl⟩ := ist
    have r0 := sh_tupR r1
    cases r0 with
    | tupK q1 q2 =>
    rename_i a vs
    have sq := q1.sq
    have br := q1.bare
    rw [c.K] at sq br
    refine ⟨⟨a, vs, rfl, sq, br⟩, ?_⟩
    refine k2 σ H1 ρ s1 M0 A _ R1 d1 (h.bind.mono fun b s2 H2 _ x2 d2 h v2 r2 => ?_)
    have R2 := R1.ext x2 d2
    obtain ⟨z, e2, g⟩ := h.lift
    have e2 : ((toPyA l).bind fun ps => (toPy b).bind fun q => idxPlace ps (SeqAt.shaped (.tuple ps)) q) = some z := e2
    rw [Option.bind_eq_some_iff] at e2
    obtain ⟨ps, hps, e2⟩ := e2
    rw [Option.bind_eq_some_iff] at e2
    obtain ⟨q, hq, e2⟩ := e2
    obtain ⟨o1, o2, j, hj, rfl⟩ := idxPlace_some e2
    have dpl : Dp E.K H2 (.ref a) (.tuple ps) := (r1.ext R1 x2).dp (by rw [toPy, hps]; rfl)
    rw [← c.K]
    exact ⟨a, v2, q, ps, j, rfl, rfl, dpl, r2.dp hq, o1, o2, hj, g H2 Ext.refl d2 _ (Rep.int _)⟩
end

/-! ### min, max, sum of ints -/
section
variable {X : Cx}
theorem alikeAll_ints (ns : List Int) : PySem.W.AlikeAll (ns.map PyData.int) := by
  refine ⟨fun x hx y hy => ?_, fun x hx => ?_⟩
  · obtain ⟨i, _, rfl⟩ := List.mem_map.mp hx
    obtain ⟨j, _, rfl⟩ := List.mem_map.mp hy
    simp [PySem.W.alike]
  · obtain ⟨i, _, rfl⟩ := List.mem_map.mp hx
    exact fun e => by cases e
theorem reads_ints {h : Heap} : ∀ {ns : List Int} {us : List Value}, Vals (ns.map V.int) us → ∃ as, ReadsAll h us (ns.map PyData.int) as
  | [], _, .nil => ⟨_, .nil⟩
  | n :: ns, _, .cons ⟨t, e⟩ r => by
    obtain ⟨as, h2⟩ := reads_ints (h := h) r
    subst e
    exact ⟨_, .cons (.int _ _) h2⟩
def rMinA (K : PySem.W.Frag) (mx : Bool) : List V → Hp → VK → Prop := fun vs H Q => ∃ (a : Addr) (n : Int) (ns : List Int), vs = [V.ref a] ∧ (SqL K H a ((n :: ns).map V.int) ∨ SqT K H a ((n :: ns).map V.int)) ∧ Q (.int (ns.foldl (if mx then max else min) n)) H
theorem cr_minA (hc : X.calm = true) (hu : X.A.units + 65 < cLine) : CallR X (.builtin "min") (rMinA X.K false) := by
  intro pins s σ H vs us Q I r h
  obtain ⟨a, n, ns, rfl, hs, q⟩ := h
  rw [Vals.ref1 r]
  have hu2 : X.A.units + 1 + PyData.depthAll (PyData.int n :: ns.map PyData.int) < cLine := by
    rw [← List.map_cons (f := PyData.int), PySem.W.depth_ints]
    omega
  rcases hs with hs | hs
  · obtain ⟨its, rv, hl, _⟩ := I.list hs
    obtain ⟨as, hr⟩ := reads_ints (h := s.heap) rv
    refine PySem.W.min_list_data (I.ok.hd hc) hl.isList (x := .int n) (xs := ns.map .int) (as := as) (by simpa using hr) (alikeAll_ints (n :: ns)) hu2 fun i v h' tk bs _ rd hk => ?_
    rw [PySem.W.minD_ints] at rd
    cases rd
    exact ⟨.int _, H, I.kept hk, ⟨_, rfl⟩, q⟩
  · obtain ⟨its, rv, hl, _⟩ := I.tuple hs
    obtain ⟨as, hr⟩ := reads_ints (h := s.heap) rv
    refine PySem.W.min_tuple_data (I.ok.hd hc) (show s.heap.IsTuple a its.toArray from hl) (x := .int n) (xs := ns.map .int) (as := as) (by simpa using hr) (alikeAll_ints (n :: ns)) hu2 fun i v h' tk bs _ rd hk => ?_
    rw [PySem.W.minD_ints] at rd
    cases rd
    exact ⟨.int _, H, I.kept hk, ⟨_, rfl⟩, q⟩
theorem cr_maxA (hc : X.calm = true) (hu : X.A.units + 65 < cLine) : CallR X (.builtin "max") (rMinA X.K true) := by
  intro pins s σ H vs us Q I r h
  obtain ⟨a, n, ns, rfl, hs, q⟩ := h
  rw [Vals.ref1 r]
  have hu2 : X.A.units + 1 + PyData.depthAll (PyData.int n :: ns.map PyData.int) < cLine := by
    rw [← List.map_cons (f := PyData.int), PySem.W.depth_ints]
    omega
  rcases hs with hs | hs
  · obtain ⟨its, rv, hl, _⟩ := I.list hs
    obtain ⟨as, hr⟩ := reads_ints (h := s.heap) rv
    refine PySem.W.max_list_data (I.ok.hd hc) hl.isList (x := .int n) (xs := ns.map .int) (as := as) (by simpa using hr) (alikeAll_ints (n :: ns)) hu2 fun i v h' tk bs _ rd hk => ?_
    rw [PySem.W.maxD_ints] at rd
    cases rd
    exact ⟨.int _, H, I.kept hk, ⟨_, rfl⟩, q⟩
  · obtain ⟨its, rv, hl, _⟩ := I.tuple hs
    obtain ⟨as, hr⟩ := reads_ints (h := s.heap) rv
    refine PySem.W.max_tuple_data (I.ok.hd hc) (show s.heap.IsTuple a its.toArray from hl) (x := .int n) (xs := ns.map .int) (as := as) (by simpa using hr) (alikeAll_ints (n :: ns)) hu2 fun i v h' tk bs _ rd hk => ?_
    rw [PySem.W.maxD_ints] at rd
    cases rd
    exact ⟨.int _, H, I.kept hk, ⟨_, rfl⟩, q⟩
end
def minAO (mx : Bool) (d : D) : Option D := (asSeqO d).bind fun l => (l.mapM asIO).bind fun ns => match ns with
  | n :: r => some (.int (r.foldl (if mx then max else min) n))
  | [] => none
def sumO (d : D) : Option D := (asLO d).bind fun l => (l.mapM asIO).map fun ns => .int ns.sum
theorem ints_of {E : Ev} {Mv : Addr → Prop} {H : Hp} : ∀ {l : List D} {vs : List V} {ns : List Int}, RepA E Mv H vs l → l.mapM asIO = some ns → vs = ns.map V.int
  | [], _, ns, .nil, h => by
    simp at h
    subst h
    rfl
  | d :: l, _, ns, .cons r t, h => by
    rw [List.mapM_cons] at h
    cases d with
    | int i =>
      simp only [asIO, Option.pure_def, Option.bind_eq_bind, Option.bind_some] at h
      rw [Option.bind_eq_some_iff] at h
      obtain ⟨ms, h1, h2⟩ := h
      cases h2
      cases r
      rw [ints_of t h1]
      rfl
    | _ => cases h
section
variable {X : Cx} {E : Ev} {W : XK} {lv : Lv} {k : Nat} {e e1 e2 : Expr} {es : List Expr} {x : Str} {pos p tpos : Pos} {m m1 m2 : PEnv → M D}
theorem k_minA (hK : E.K = X.K) (mx : Bool) : CallD E W (rMinA X.K mx) (arg1 fun d => lift (minAO mx d)) := by
  refine .one fun σ H ρ s M0 A Q v d R dl r h => ?_
  obtain ⟨z, e, g⟩ := h.lift
  unfold minAO at e
  rw [Option.bind_eq_some_iff] at e
  obtain ⟨l, e1, e⟩ := e
  rw [Option.bind_eq_some_iff] at e
  obtain ⟨ns, e2, e⟩ := e
  rw [← hK]
  cases ns with
  | nil => cases e
  | cons n ns =>
    cases e
    cases d with
    | lst l' =>
      cases e1
      obtain ⟨a, vs, rfl, h1, r1⟩ := sh_lst r
      rw [ints_of r1 e2] at h1
      exact ⟨a, n, ns, rfl, .inl (SqL.of h1), g H Ext.refl dl _ (.int _)⟩
    | tup kb l' =>
      cases e1
      obtain ⟨a, vs, rfl, h1, r1⟩ := sh_tup r
      rw [ints_of r1 e2] at h1
      exact ⟨a, n, ns, rfl, .inr h1, g H Ext.refl dl _ (.int _)⟩
    | _ => cases e1
theorem k_sum (hK : E.K = X.K) : CallD E W (rSum X.K) (arg1 fun d => lift (sumO d)) := by
  refine .one fun σ H ρ s M0 A Q v d R dl r h => ?_
  obtain ⟨z, e, g⟩ := h.lift
  unfold sumO at e
  rw [Option.bind_eq_some_iff] at e
  obtain ⟨l, e1, e⟩ := e
  rw [Option.map_eq_some_iff] at e
  obtain ⟨ns, e2, rfl⟩ := e
  rw [← hK]
  cases d with
  | lst l' =>
    cases e1
    obtain ⟨a, vs, rfl, h1, r1⟩ := sh_lst r
    rw [ints_of r1 e2] at h1
    exact ⟨a, ns, rfl, SqL.of h1, g H Ext.refl dl _ (.int _)⟩
  | _ => cases e1
theorem g_min1 (c : Ctx X E W k) (hm : X.mg "min" = none) (ha : CE X E W .sh e m) (hg : Gl X "min" := by rfl) (he : starEach [e] X.env = (false, eval e X.env) :: starEach [] X.env := by rfl) :
    CE X E W lv (.Call (.Name "min" p) [e] [] pos) (fun ρ => (m ρ >>= fun d => pure [] >>= fun l => pure (d :: l)) >>= arg1 fun d => lift (minAO false d)) :=
  c_callB (cr_minA c.calm c.u65) (k_minA c.K false) hm (by decide +kernel) (a_cons ha a_nil he) hg (by decide) (by decide) he rfl
theorem g_max1 (c : Ctx X E W k) (hm : X.mg "max" = none) (ha : CE X E W .sh e m) (hg : Gl X "max" := by rfl) (he : starEach [e] X.env = (false, eval e X.env) :: starEach [] X.env := by rfl) :
    CE X E W lv (.Call (.Name "max" p) [e] [] pos) (fun ρ => (m ρ >>= fun d => pure [] >>= fun l => pure (d :: l)) >>= arg1 fun d => lift (minAO true d)) :=
  c_callB (cr_maxA c.calm c.u65) (k_minA c.K true) hm (by decide +kernel) (a_cons ha a_nil he) hg (by decide) (by decide) he rfl
theorem g_sum (c : Ctx X E W k) (hm : X.mg "sum" = none) (ha : CE X E W .sh e m) (hg : Gl X "sum" := by rfl) (he : starEach [e] X.env = (false, eval e X.env) :: starEach [] X.env := by rfl) :
    CE X E W lv (.Call (.Name "sum" p) [e] [] pos) (fun ρ => (m ρ >>= fun d => pure [] >>= fun l => pure (d :: l)) >>= arg1 fun d => lift (sumO d)) :=
  c_callB (cr_sum c.calm) (k_sum c.K) hm (by decide +kernel) (a_cons ha a_nil he) hg (by decide) (by decide) he rfl
end
end PL
end
section
set_option Elab.async false
set_option linter.all false
set_option maxRecDepth 100000
/-! PL14: repr, list(range), dict(pairs), sorted(dict), pops. -/
namespace PL
open PySem PySem.Spec L2 PyProof.Rows
section
variable {X : Cx}
def reprOk (p : PyData) : Bool := p.showable && !p.hasDict && decide (p.depth ≤ 60) && decide (p.shown.length ≤ sizeLine)
def rReprD (K : PySem.W.Frag) : List V → Hp → VK → Prop := fun xs H Q => ∃ (a : Addr) (p : PyData), xs = [.ref a] ∧ Dp K H (.ref a) p ∧ reprOk p = true ∧ Q (.str p.shown) H
theorem cr_repr (hu : X.A.units + 65 < cLine) (hg : X.A.guards = some []) : CallR X (.builtin "repr") (rReprD X.K) := by
  intro pins s σ H xs us Q I r h
  obtain ⟨a, p, rfl, hd, ok, q⟩ := h
  unfold reprOk at ok
  simp only [Bool.and_eq_true, Bool.not_eq_true'] at ok
  obtain ⟨⟨⟨o1, o2⟩, o3⟩, o4⟩ := ok
  have o3 := of_decide_eq_true o3
  have o4 := of_decide_eq_true o4
  rw [Vals.ref1 r]
  obtain ⟨as, rd⟩ := Dp.reads I p _ (.ref a) hd rfl
  exact repr_of_reads' rd o1 (fun e => by rw [o2] at e; cases e) hg (by omega) (fun _ _ e => e) (fun h' u tk hk => ⟨.str _, H, I.kept hk, ⟨u, rfl⟩, q⟩) o4
end
def isSeqD : D → Bool
  | .lst _ => true
  | .tup _ _ => true
  | _ => false
def reprO (d : D) : Option D := if isSeqD d = true then (toPy d).bind fun p => if reprOk p = true then some (.str p.shown) else none else none
section
variable {X : Cx} {E : Ev} {W : XK} {lv : Lv} {k : Nat} {e e1 e2 : Expr} {es : List Expr} {x : Str} {pos p p2 pos2 tpos : Pos} {m m1 m2 : PEnv → M D}
theorem k_repr (hK : E.K = X.K) : CallD E W (rReprD X.K) (arg1 fun d => lift (reprO d)) := by
  refine .one fun σ H ρ s M0 A Q v d R dl r h => ?_
  obtain ⟨z, e, g⟩ := h.lift
  unfold reprO at e
  split at e
  · rename_i hs
    rw [Option.bind_eq_some_iff] at e
    obtain ⟨q, e1, e2⟩ := e
    split at e2
    · rename_i ok
      cases e2
      have dp := r.dp e1
      rw [hK] at dp
      have isr : ∃ a, v = .ref a := by
        cases d with
        | lst l => obtain ⟨a, _, rfl, _⟩ := sh_lst r; exact ⟨a, rfl⟩
        | tup kb l => obtain ⟨a, _, rfl, _⟩ := sh_tup r; exact ⟨a, rfl⟩
        | _ => cases hs
      obtain ⟨a, rfl⟩ := isr
      exact ⟨a, q, rfl, dp, ok, g H Ext.refl dl _ (.str _)⟩
    · cases e2
  · cases e
theorem g_repr (c : Ctx X E W k) (hm : X.mg "repr" = none) (ha : CE X E W .sh e m) (hg : Gl X "repr" := by rfl) (he : starEach [e] X.env = (false, eval e X.env) :: starEach [] X.env := by rfl) :
    CE X E W lv (.Call (.Name "repr" p) [e] [] pos) (fun ρ => (m ρ >>= fun d => pure [] >>= fun l => pure (d :: l)) >>= arg1 fun d => lift (reprO d)) :=
  c_callB (cr_repr c.u65 c.gd) (k_repr c.K) hm (by decide +kernel) (a_cons ha a_nil he) hg (by decide) (by decide) he rfl
/-! ### list(range(n)) -/
def lrgO : D → Option (List D)
  | .int j => if 0 ≤ j ∧ j ≤ 16777216 then some (rangeL 0 j.toNat) else none
  | _ => none
theorem rangeL_rg {E : Ev} {Mv : Addr → Prop} {H : Hp} (j : Int) : RepA E Mv H (rgV 0 j) (rangeL 0 j.toNat) := by
  unfold rgV rangeL
  rw [Int.sub_zero]
  generalize List.range j.toNat = l
  induction l with
  | nil => exact .nil
  | cons i l ih => exact .cons (.int _) ih
theorem g_lrange (c : Ctx X E W k) (hm : X.mg "list" = none) (hm2 : X.mg "range" = none) (ha : CE X E W .sh e m) (hg : Gl X "list" := by rfl) (hg2 : Gl X "range" := by rfl) (he : starEach [e] X.env = (false, eval e X.env) :: starEach [] X.env := by rfl)
    (he2 : starEach [.Call (.Name "range" p2) [e] [] pos2] X.env = (false, eval (.Call (.Name "range" p2) [e] [] pos2) X.env) :: starEach [] X.env := by rfl) :
    CF X E W (.Call (.Name "list" p) [.Call (.Name "range" p2) [e] [] pos2] [] pos) (fun ρ => m ρ >>= fun d => lift (lrgO d)) := by
  obtain ⟨t, pp, kk⟩ := ha
  refine ⟨_, pe_listRg c.calm hg hm (prg_1 hg2 hm2 pp he) he2, fun σ H ρ s M0 A Q R dl h => ?_⟩
  refine kk σ H ρ s M0 A _ R dl (h.bind.mono fun d s1 H1 _ x1 d1 h v r => ?_)
  obtain ⟨z, e, g⟩ := h.lift
  cases d with
  | int j =>
    have e : (if 0 ≤ j ∧ j ≤ 16777216 then some (rangeL 0 j.toNat) else none) = some z := e
    split at e
    · rename_i hj
      cases e
      obtain rfl := r.int
      refine ⟨j, rfl, RgOk.of_le (by omega) hj.2 (by omega) hj.1, fun q hq => ?_⟩
      exact g _ (Ext.laid hq) (d1.laid hq) q _ (was_free x1 d1 hq) upd_same (rangeL_rg j)
    · cases e
  | _ => cases e
/-! ### dict([(k, v), ..]) -/
def pairO : D → Option (Key × D)
  | .tup _ [a, b] => (keyK a).map fun k => (k, b)
  | _ => none
def mergeD (l : List (Key × D)) : List (D × D) := l.foldl (fun r p => putD r (keyD p.1) p.2) []
def dictO : D → Option (List (D × D))
  | .lst l => (l.mapM pairO).map mergeD
  | _ => none
theorem keyK_keyD : ∀ {a : D} {k : Key}, keyK a = some k → a = keyD k
  | .int i, k, h => by cases h; rfl
  | .str i, k, h => by cases h; rfl
  | .non, _, h => by cases h
  | .bl _, _, h => by cases h
  | .tup _ _, _, h => by cases h
  | .lst _, _, h => by cases h
  | .dic _ _, _, h => by cases h
  | .ins _ _, _, h => by cases h
  | .deal, _, h => by cases h
  | .dealL, _, h => by cases h
  | .scr _, _, h => by cases h
theorem pairs_rel {Mv : Addr → Prop} {H : Hp} : ∀ {l : List D} {vs : List V} {ks : List (Key × D)}, RepA E Mv H vs l → l.mapM pairO = some ks → ∃ (ps : List Addr) (kvs : List (Key × V)), vs = ps.map V.ref ∧ Paired (fun p kv => SqT E.K H p [kV kv.1, kv.2]) ps kvs ∧
    kvs.map (·.1) = ks.map (·.1) ∧ RepA E Mv H (kvs.map (·.2)) (ks.map (·.2))
  | [], _, ks, .nil, h => by
    simp at h
    subst h
    exact ⟨[], [], rfl, .nil, rfl, .nil⟩
  | d :: l, _, ks, .cons r t, h => by
    rw [List.mapM_cons] at h
    cases e : pairO d with
    | none => rw [e] at h; cases h
    | some q =>
      rw [e] at h
      simp only [Option.pure_def, Option.bind_eq_bind, Option.bind_some] at h
      rw [Option.bind_eq_some_iff] at h
      obtain ⟨ms, h1, h2⟩ := h
      cases h2
      obtain ⟨ps, kvs, e1, e2, e3, e4⟩ := pairs_rel t h1
      have key : ∃ kb a b k, d = .tup kb [a, b] ∧ a = keyD k ∧ q = (k, b) := by
        unfold pairO at e
        split at e
        · rename_i kb a b
          rw [Option.map_eq_some_iff] at e
          obtain ⟨k, e5, e6⟩ := e
          exact ⟨kb, a, b, k, rfl, keyK_keyD e5, e6.symm⟩
        · cases e
      obtain ⟨kb, a, b, k, rfl, rfl, rfl⟩ := key
      obtain ⟨ad, us, rfl, sq, ra⟩ := sq_of r
      cases ra with
      | cons ra1 ra2 =>
        cases ra2 with
        | cons ra2 ra3 =>
          cases ra3
          have ek : _ = kV k := kV_key ra1 (dkey_keyD k)
          subst ek
          refine ⟨ad :: ps, (k, _) :: kvs, by rw [e1]; rfl, .cons sq e2, by simp [e3], .cons ra2 e4⟩
theorem dkey_inj {x y : Key} (h : (Sum.inl x : DK) = Sum.inl y) : x = y := by cases h; rfl
theorem merge_rel {Mv : Addr → Prop} {H : Hp} : ∀ {kvs : List (Key × V)} {ks : List (Key × D)} {acc : List (Key × V)} {l : List (D × D)}, kvs.map (·.1) = ks.map (·.1) → RepA E Mv H (kvs.map (·.2)) (ks.map (·.2)) →
    acc.map (fun p => keyD p.1) = l.map (·.1) → RepA E Mv H (acc.map (·.2)) (l.map (·.2)) →
    (mergeK acc kvs).map (fun p => keyD p.1) = (ks.foldl (fun r p => putD r (keyD p.1) p.2) l).map (·.1) ∧ RepA E Mv H ((mergeK acc kvs).map (·.2)) ((ks.foldl (fun r p => putD r (keyD p.1) p.2) l).map (·.2))
  | [], [], acc, l, _, _, h3, h4 => ⟨h3, h4⟩
  | [], _ :: _, _, _, h, _, _, _ => by simp at h
  | _ :: _, [], _, _, h, _, _, _ => by simp at h
  | (k1, v) :: kvs, (k2, d) :: ks, acc, l, h1, h2, h3, h4 => by
    simp only [List.map_cons, List.cons.injEq] at h1 h2
    obtain ⟨rfl, h1⟩ := h1
    cases h2 with
    | cons r h2 =>
      obtain ⟨q1, q2⟩ := put_rel (f := keyD) (g := Sum.inl) dkey_keyD (fun _ _ => dkey_inj) (kk := k1) r h3 h4
      exact merge_rel (acc := putK acc k1 v) (l := putD l (keyD k1) d) (ks := ks) h1 h2 q1 q2
theorem g_dict (c : Ctx X E W k) (hm : X.mg "dict" = none) (ha : CE X E W .sh e m) (hg : Gl X "dict" := by rfl) (he : starEach [e] X.env = (false, eval e X.env) :: starEach [] X.env := by rfl) :
    CD X E W (.Call (.Name "dict" p) [e] [] pos) false (fun ρ => m ρ >>= fun d => lift (dictO d)) := by
  obtain ⟨t, pp, kk⟩ := ha
  refine ⟨_, pe_callTy (call_dictP c.calm) hg hm (by decide +kernel) (pa_cons pp pa_nil he) (by decide) (by decide) he rfl, fun σ H ρ s M0 A Q R dl h => ?_⟩
  refine kk σ H ρ s M0 A _ R dl (h.bind.mono fun d s1 H1 _ x1 d1 h v r => ?_)
  obtain ⟨z, e, g⟩ := h.lift
  cases d with
  | lst l =>
    have e : (l.mapM pairO).map mergeD = some z := e
    rw [Option.map_eq_some_iff] at e
    obtain ⟨ks, e1, rfl⟩ := e
    obtain ⟨a, vs, rfl, h1, r1⟩ := sh_lst r
    obtain ⟨ps, kvs, rfl, q1, q2, q3⟩ := pairs_rel r1 e1
    rw [c.K] at q1
    refine ⟨a, ps, kvs, rfl, SqL.of h1, q1, fun q hq => ?_⟩
    obtain ⟨g1, g2⟩ := merge_rel (acc := []) (l := []) q2 q3 rfl .nil
    exact g _ (Ext.laid hq) (d1.laid hq) q (was_free x1 d1 hq) (.k upd_same g1 (g2.laidN hq))
  | _ => cases e
end
/-! ### sorted(d) -/
section
variable {X : Cx}
mutual
theorem reads_lt {h : Heap} : ∀ {v : Value} {d : PyData} {as : List Addr}, Reads h v d as → ∀ b ∈ as, b < h.objs.size
  | _, _, _, .none, b, hb => by cases hb
  | _, _, _, .bool _, b, hb => by cases hb
  | _, _, _, .int _ _, b, hb => by cases hb
  | _, _, _, .str _ _, b, hb => by cases hb
  | _, _, _, .list h1 _ _ h4, b, hb => by
    rcases List.mem_cons.mp hb with rfl | hb
    · exact Heap.lt_size h1
    · exact readsAll_lt h4 b hb
  | _, _, _, .tuple _ _ _ h4, b, hb => readsAll_lt h4 b hb
  | _, _, _, .dict h1 _ _ h4 h5, b, hb => by
    rcases List.mem_append.mp hb with hb | hb
    · rcases List.mem_cons.mp hb with rfl | hb
      · exact Heap.lt_size h1
      · exact readsAll_lt h4 b hb
    · exact readsAll_lt h5 b hb
theorem readsAll_lt {h : Heap} : ∀ {vs : List Value} {ds : List PyData} {as : List Addr}, ReadsAll h vs ds as → ∀ b ∈ as, b < h.objs.size
  | _, _, _, .nil, b, hb => by cases hb
  | _, _, _, .cons h1 h2, b, hb => by
    rcases List.mem_append.mp hb with hb | hb
    · exact reads_lt h1 b hb
    · exact readsAll_lt h2 b hb
end
theorem wp_sorts {pins : List (Addr × Obj)} {σ : L2.St} {H : Hp} {s : Shared} {vs : List V} {ps : List PyData} {acc : List Value} {Q : VK} (hu : X.A.units + 65 < cLine) (I : Inv X pins σ H s) (rv : Vals vs acc) (hd : DpAll X.K H vs ps) (ok : pyOk ps = true) (hz : acc.length ≤ sizeLine)
    {T : Value → Sem PySem.Fin} (hT : ∀ p : Addr, T (.ref p) = (holding [.ref p] (call (.builtin "list.sort") [.ref p]) >>= fun _ => pure (.done (.ret (.ref p)))))
    (q : ∀ p, H p = none → Q (.ref p) (upd H p (.lst (((vs.zip ps).mergeSort (PySem.W.dataLe false (·.2))).map (·.1))))) {Ee : Value → Shared → Prop} :
    wpAny (model X.prog X.w) X.A.in1 (newList acc >>= T) (fun f s' => ∃ v, f = .done (.ret v) ∧ EP X pins σ Q v s') Ee s := by
  have e1 := dpall_len hd
  have el : (vs.zip ps).length = vs.length := by simp [e1]
  have ev : vs.length = acc.length := Paired.length rv
  unfold pyOk at ok
  rw [Bool.and_eq_true, Bool.and_eq_true] at ok
  obtain ⟨⟨o1, o2⟩, o3⟩ := ok
  have o3 := of_decide_eq_true o3
  have em : (vs.zip ps).map (·.2) = ps := zip_snd e1
  refine wpAny_bind (wpAny_newList ?_ hz)
  have hoL : (s.heap.push (seqObj "list" acc.toArray 0)).get? s.heap.objs.size = some (seqObj "list" acc.toArray 0) := Heap.get?_push_size _ rfl
  have I1 : Inv X pins σ H { s with heap := s.heap.push (seqObj "list" acc.toArray 0) } := I.kept (t' := s.toks) fun b o e => Heap.get?_push_of_some _ e
  obtain ⟨h1, h2⟩ := each_zip I1 rv hd
  rw [hT]
  have h3 : PySem.W.EachIs (fun (v : Value) (b : V × PyData) => ∃ as, Reads (s.heap.push (seqObj "list" acc.toArray 0)) v b.2 as ∧ s.heap.objs.size ∉ as) acc (vs.zip ps) := by
    obtain ⟨_, g2⟩ := each_zip I rv hd
    refine g2.mono fun v b ⟨as, r⟩ => ⟨as, PyProof.Rows.Reads.keeps (fun _ _ e => Heap.get?_push_of_some _ e) r, fun hm => ?_⟩
    exact absurd (reads_lt r _ hm) (Nat.lt_irrefl _)
  refine wpAny_bind (wpAny_holding (PySem.W.list_sort_data (A := X.A.in1) (s := { s with heap := s.heap.push (seqObj "list" acc.toArray 0) }) (enc := fun b : V × PyData => b.2) hoL h1 h3 (by rw [em]; exact alike_of o1) (by rw [em]; exact sortable_of o2) (by rw [el, ev]; exact hz) (fun b hb => ?_) fun out ho he => ?_))
  · have : b.2 ∈ ps := by rw [← em]; exact List.mem_map_of_mem (f := (·.2)) hb
    have := depth_mem this
    show X.A.units + 1 + 1 + b.2.depth < cLine
    omega
  · obtain ⟨ep, he'⟩ := PyProof.Rows.sortedHeap_at (vs := acc) (out := out.toArray) hoL
    have hlen : (((vs.zip ps).mergeSort (PySem.W.dataLe false (·.2))).map (·.1)).length ≤ sizeLine := by rw [List.length_map, List.length_mergeSort, el, ev]; exact hz
    refine wpAny_pure ⟨_, rfl, .ref s.heap.objs.size, upd H s.heap.objs.size (.lst _), I.laid (t' := s.toks) (fun b u e => ?_) (Nat.le_refl _)
      (show ObjOk X.prog X.w _ _ _ (.lst _) from ⟨hlen, out, ep, vals_each he, he'⟩), rfl, q _ (I.hok.fresh (Nat.le_refl _))⟩
    have hb : b < s.heap.objs.size := Heap.lt_size e
    rw [PyProof.Rows.sortedHeap_old (Nat.ne_of_lt hb) (by rw [PyProof.Rows.size_push']; exact Nat.lt_succ_of_lt hb)]
    exact Heap.get?_push_of_some _ e
def keyP : Key → PyData
  | .inl i => .int i
  | .inr x => .str x
def rSortedT : List V → Hp → VK → Prop := fun xs H Q => ∃ (a : Addr) (kvs : List (List Key × V)), xs = [.ref a] ∧ Rd H a (.dT kvs) ∧ pyOk (kvs.map fun p => .tuple (p.1.map keyP)) = true ∧
  ∀ bs p, IsKeys H kvs bs → H p = none → Q (.ref p) (upd H p (.lst ((((bs.map V.ref).zip (kvs.map fun p => PyData.tuple (p.1.map keyP))).mergeSort (PySem.W.dataLe false (·.2))).map (·.1))))
def rSortedK : List V → Hp → VK → Prop := fun xs H Q => ∃ (a : Addr) (kvs : List (Key × V)), xs = [.ref a] ∧ Rd H a (.dK kvs) ∧ pyOk (kvs.map fun p => keyP p.1) = true ∧
  ∀ p, H p = none → Q (.ref p) (upd H p (.lst ((((kvs.map fun p => kV p.1).zip (kvs.map fun p => keyP p.1)).mergeSort (PySem.W.dataLe false (·.2))).map (·.1))))
theorem dp_key {K : PySem.W.Frag} {H : Hp} : ∀ k : Key, Dp K H (kV k) (keyP k)
  | .inl i => .int i
  | .inr x => .str x
theorem dp_keys {K : PySem.W.Frag} {H : Hp} : ∀ ks : List Key, DpAll K H (ks.map kV) (ks.map keyP)
  | [] => .nil
  | k :: ks => .cons (dp_key k) (dp_keys ks)
theorem cr_sortedT (hc : X.calm = true) (hu : X.A.units + 65 < cLine) : CallR X (.builtin "sorted") rSortedT := by
  intro pins s σ H xs us Q I r h
  obtain ⟨d, kvs, rfl, hd, ok, q⟩ := h
  obtain ⟨u, rfl, rx⟩ := r.one
  cases rx
  obtain ⟨z, hs, ks, pr, o, es, ep, ho, hx, hdt, he, hn⟩ := (show ObjOk X.prog X.w H s.heap d (.dT kvs) from hd.ok I.hok)
  have l1 : es.size = ks.length := size_of_entries he
  have l2 : kvs.length = ks.length := Paired.length pr
  refine Calls.call_function_entry PyProof.Rows.kind_sorted PyProof.Rows.plain_sorted PyProof.Rows.entry_sorted (PyProof.Rows.args_sorted1 _) ?_
  unfold Builtin.«sorted»
  refine wpAny_bind (m := checkCount "sorted" 1 1 _) (wpAny_pure ?_)
  refine wpAny_bind (PySem.W.kdu_collect (A := X.A.in1) (kdl_raw hs hx hdt) (I.ok.hd hc) ho (by omega) fun h' tk acc kp it => ?_)
  have ea : acc.toList = ks.map fun x => Value.ref x.2.1 := by
    have hl : acc.toList.length = ks.length := by rw [Array.length_toList, it.1]; exact l1
    apply List.ext_getElem?
    intro j
    rw [List.getElem?_map]
    cases hj : acc.toList[j]? with
    | none =>
      have h1 := List.getElem?_eq_none_iff.mp hj
      rw [List.getElem?_eq_none (by omega)]
      all_goals rfl
    | some v =>
      obtain ⟨en, hen, hv⟩ := it.2 j v (by rw [← Array.getElem?_toList]; exact hj)
      have qe := entry_at he j
      rw [hen] at qe
      cases hb : ks[j]? with
      | none =>
        rw [hb] at qe
        exact nomatch (show some en = none from qe)
      | some b =>
        rw [hb] at qe
        have e2 : en = entryOfKey (tupleKind (mixKind X.prog X.w)) b := Option.some.inj qe
        rw [hv, e2]
        all_goals rfl
  have eb : acc.toList = (ks.map fun x => x.2.1).map Value.ref := by rw [ea, List.map_map]; all_goals rfl
  have rv : Vals ((ks.map fun x => x.2.1).map V.ref) acc.toList := by rw [eb]; exact vals_refs _
  have I1 : Inv X pins σ H { s with heap := h', toks := tk } := I.kept kp
  have hdp : DpAll X.K H ((ks.map fun x => x.2.1).map V.ref) (kvs.map fun p => PyData.tuple (p.1.map keyP)) := by
    clear q ok l1 l2 hd ho he hn it ea eb rv
    induction pr with
    | nil => exact .nil
    | cons h t ih => exact .cons (.tup (.inl (.inl h.2.1)) (dp_keys _)) (ih (by simpa using Nat.le_of_succ_le z))
  refine wpAny_mono (wp_sorts hu I1 rv hdp ok (by rw [eb]; simp; omega) (T := fun l => do
    let _ ← holding [l] (call (.builtin "list.sort") [l] [])
    ret l) (fun p => rfl) fun p hp => q _ p (isKeys_of pr) hp) (fun f s' hf => hf) fun _ _ e => e
theorem cr_sortedK (hc : X.calm = true) (hu : X.A.units + 65 < cLine) : CallR X (.builtin "sorted") rSortedK := by
  intro pins s σ H xs us Q I r h
  obtain ⟨d, kvs, rfl, hd, ok, q⟩ := h
  obtain ⟨u, rfl, rx⟩ := r.one
  cases rx
  obtain ⟨z, lo, vs, rel, dd⟩ := dk_rd I.hok hd
  obtain ⟨ep, hat⟩ := dd.dictAt
  have hl : kvs.length = vs.length := rel.length
  refine Calls.call_function_entry PyProof.Rows.kind_sorted PyProof.Rows.plain_sorted PyProof.Rows.entry_sorted (PyProof.Rows.args_sorted1 _) ?_
  unfold Builtin.«sorted»
  refine wpAny_bind (m := checkCount "sorted" 1 1 _) (wpAny_pure ?_)
  refine wpAny_bind (PySem.W.kdu_collect (A := X.A.in1) (PySem.W.kdl_dict (knd := mixKind X.prog X.w) (kvs := vs) (ep := ep) lo) (I.ok.hd hc) hat (by omega) fun h' tk acc hk hacc => ?_)
  have ek : (kvs.map fun kv => kV kv.1) = vs.map fun p => kV p.1 := by
    have e := congrArg (List.map kV) rel.keys
    rw [List.map_map, List.map_map] at e
    exact e
  have hv : Vals (kvs.map fun p => kV p.1) acc.toList := by
    rw [ek]
    exact keys_at (by rw [Array.length_toList]; exact hacc.1) fun j v e => hacc.2 j v (by rw [← Array.getElem?_toList]; exact e)
  have I1 : Inv X pins σ H { s with heap := h', toks := tk } := I.kept hk
  have hdp : DpAll X.K H (kvs.map fun p => kV p.1) (kvs.map fun p => keyP p.1) := by
    have := dp_keys (K := X.K) (H := H) (kvs.map (·.1))
    rw [List.map_map, List.map_map] at this
    exact this
  refine wpAny_mono (wp_sorts hu I1 hv hdp ok (by rw [Array.length_toList, hacc.1]; omega) (T := fun l => do
    let _ ← holding [l] (call (.builtin "list.sort") [l] [])
    ret l) (fun p => rfl) q) (fun f s' hf => hf) fun _ _ e => e
end
section
variable {X : Cx} {E : Ev} {W : XK} {lv : Lv} {k : Nat} {e e1 e2 : Expr} {es : List Expr} {x : Str} {pos p p2 pos2 tpos : Pos} {m m1 m2 : PEnv → M D}
def keysD (l : List (D × D)) : List D := l.map (·.1)
def sortAO : D → Option (List D)
  | .lst l => (toPyA l).bind fun ps => if pyOk ps = true then some (sortL l) else none
  | .dic _ l => (toPyA (keysD l)).bind fun ps => if pyOk ps = true then some (sortL (keysD l)) else none
  | _ => none
theorem CallR.or {f : Value} {r r' : List V → Hp → VK → Prop} (h : CallR X f r) (h' : CallR X f r') : CallR X f (fun xs H Q => r xs H Q ∨ r' xs H Q) :=
  fun pins s σ H xs us Q I rv q => q.elim (fun q => h pins s σ H xs us Q I rv q) fun q => h' pins s σ H xs us Q I rv q
theorem enc_key (k : Key) : encD (keyD k) = keyP k := by
  cases k <;> rfl
theorem toPyA_keys : ∀ ks : List Key, toPyA (ks.map keyD) = some (ks.map keyP)
  | [] => rfl
  | k :: ks => by
    rw [List.map_cons, toPyA, toPyA_keys ks]
    cases k <;> rfl
theorem enc_tup (ks : List Key) : encD (tupD ks) = .tuple (ks.map keyP) := by
  unfold encD tupD
  rw [toPy, toPyA_keys]
  rfl
theorem rep_key {Mv : Addr → Prop} {H : Hp} : ∀ k : Key, Rep E Mv H (kV k) (keyD k)
  | .inl i => .int i
  | .inr x => .str x
theorem rep_keys {Mv : Addr → Prop} {H : Hp} : ∀ ks : List Key, RepA E Mv H (ks.map kV) (ks.map keyD)
  | [] => .nil
  | k :: ks => .cons (rep_key k) (rep_keys ks)
theorem rep_refs {Mv : Addr → Prop} {H : Hp} {kvs : List (List Key × V)} {bs : List Addr} (h : IsKeys H kvs bs) : RepA E Mv H (bs.map V.ref) (kvs.map fun p => tupD p.1) := by
  unfold IsKeys at h
  induction h with
  | nil => exact .nil
  | cons h t ih => exact .cons (.tup h (rep_keys _)) ih
theorem k_sortA (hK : E.K = X.K) : CallF E W (fun xs H Q => rSortD X.K xs H Q ∨ rSortedT xs H Q ∨ rSortedK xs H Q) (arg1F fun d => lift (sortAO d)) := by
  refine .one fun σ H ρ s M0 A Q v d R dl r h => ?_
  obtain ⟨z, e, g⟩ := h.lift
  rw [← hK]
  cases d with
  | lst l =>
    have e : ((toPyA l).bind fun ps => if pyOk ps = true then some (sortL l) else none) = some z := e
    rw [Option.bind_eq_some_iff] at e
    obtain ⟨ps, e1, e2⟩ := e
    split at e2
    · rename_i ok
      cases e2
      obtain ⟨a, vs, rfl, h1, r1⟩ := sh_lst r
      have en := toPyA_enc e1
      refine .inl ⟨a, vs, ps, rfl, SqL.of h1, r1.dp e1, ok, fun q hq => ?_⟩
      subst en
      exact g _ (Ext.laid hq) (dl.laid hq) q _ hq upd_same ((sort_rep r1).laidN hq)
    · cases e2
  | dic t l =>
    have e : ((toPyA (keysD l)).bind fun ps => if pyOk ps = true then some (sortL (keysD l)) else none) = some z := e
    rw [Option.bind_eq_some_iff] at e
    obtain ⟨ps, e1, e2⟩ := e
    split at e2
    · rename_i ok
      cases e2
      obtain ⟨a, rfl, da⟩ := sh_dic r
      have en := toPyA_enc e1
      subst en
      cases da with
      | k h1 h2 h3 =>
        rename_i ks
        have h2 : ks.map (fun p => keyD p.1) = keysD l := h2
        rw [← h2, List.map_map] at ok
        have e5 : ((encD ∘ fun p : Key × V => keyD p.1) : Key × V → PyData) = fun p => keyP p.1 := funext fun p => enc_key p.1
        rw [e5] at ok
        refine .inr (.inr ⟨a, ks, rfl, .inl h1, ok, fun q hq => ?_⟩)
        have rr : RepA E (Own M0 A) H (ks.map fun p => kV p.1) (keysD l) := by
          have := rep_keys (E := E) (Mv := Own M0 A) (H := H) (ks.map (·.1))
          rw [List.map_map, List.map_map] at this
          rw [← h2]
          exact this
        have sr := (sort_rep rr).laidN (o := .lst (((ks.map fun p => kV p.1).zip ((keysD l).map encD)).mergeSort (PySem.W.dataLe false (·.2)) |>.map (·.1))) hq
        have e6 : (keysD l).map encD = ks.map fun p => keyP p.1 := by rw [← h2, List.map_map, e5]
        rw [e6] at sr
        exact g _ (Ext.laid hq) (dl.laid hq) q _ hq upd_same sr
      | t h1 h2 h3 =>
        rename_i ks
        have h2 : ks.map (fun p => tupD p.1) = keysD l := h2
        rw [← h2, List.map_map] at ok
        have e5 : ((encD ∘ fun p : List Key × V => tupD p.1) : List Key × V → PyData) = fun p => .tuple (p.1.map keyP) := funext fun p => enc_tup p.1
        rw [e5] at ok
        refine .inr (.inl ⟨a, ks, rfl, .inl h1, ok, fun bs q hbs hq => ?_⟩)
        have rr : RepA E (Own M0 A) H (bs.map V.ref) (keysD l) := by
          rw [← h2]
          exact rep_refs hbs
        have e6 : (keysD l).map encD = ks.map fun p => PyData.tuple (p.1.map keyP) := by rw [← h2, List.map_map, e5]
        have sr := (sort_rep rr).laidN (o := .lst (((bs.map V.ref).zip ((keysD l).map encD)).mergeSort (PySem.W.dataLe false (·.2)) |>.map (·.1))) hq
        rw [e6] at sr
        exact g _ (Ext.laid hq) (dl.laid hq) q _ hq upd_same sr
    · cases e2
  | _ => cases e
theorem g_sortA (c : Ctx X E W k) (hm : X.mg "sorted" = none) (ha : CE X E W .sh e m) (hg : Gl X "sorted" := by rfl) (he : starEach [e] X.env = (false, eval e X.env) :: starEach [] X.env := by rfl) :
    CF X E W (.Call (.Name "sorted" p) [e] [] pos) (fun ρ => (m ρ >>= fun d => pure [] >>= fun l => pure (d :: l)) >>= arg1F fun d => lift (sortAO d)) :=
  f_callB (CallR.or (cr_sortD c.u65) (CallR.or (cr_sortedT c.calm c.u65) (cr_sortedK c.calm c.u65))) (k_sortA c.K) hm rfl (a_cons ha a_nil he) hg (by decide) (by decide) he rfl
end
end PL
end
section
set_option Elab.async false
set_option linter.all false
set_option maxRecDepth 100000
/-! PL15: pops: expressions that write a list of the def's own. -/
namespace PL
open PySem PySem.Spec L2
section
variable {E : Ev} {W : XK} {M0 : Addr → Prop} {A : Nat → Option Addr} {H : Hp} {σ : L2.St} {ρ : PEnv} {s : Dl}
def XFin (E : Ev) (W : XK) (M0 : Addr → Prop) (A : Nat → Option Addr) (H : Hp) (σ : L2.St) (r : Out (D × PEnv)) (Q : D → PEnv → Dl → V → Hp → Prop) : Prop := match r with
  | .ok (d, ρ') s' => ∀ v H', ER E M0 A H' σ ρ' → Ext (Chg E A) H H' → DealAt E H' s' → Rep E (Own M0 A) H' v d → Q d ρ' s' v H'
  | .exc c as s' => ∀ H' dct, Ext (Chg E A) H H' → DealAt E H' s' → XAt E H' c as dct → W (.ref (E.C c)) dct H'
  | .bad => False
def CX (X : Cx) (E : Ev) (W : XK) (e : Expr) (m : PEnv → M (D × PEnv)) : Prop :=
  ∃ t : TE, PE X e t ∧ ∀ (σ : L2.St) (H : Hp) (ρ : PEnv) (s : Dl) (M0 : Addr → Prop) (A : Nat → Option Addr) (Q : VK), ER E M0 A H σ ρ → DealAt E H s →
    XFin E W M0 A H σ (m ρ s) (fun _ _ _ v H' => Q v H') → t σ H Q
/-- behind such an expression -/
theorem SFin.exprX {m : M (D × PEnv)} {f : D × PEnv → M (Fl × PEnv)} {D : Ends} (R : ER E M0 A H σ ρ) (h : SFin E W M0 A H ((m >>= f) s) D) : XFin E W M0 A H σ (m s) fun d ρ' s' _ H' => SFin E W M0 A H' (f (d, ρ') s') D := by
  rw [bind_run] at h
  cases e : m s with
  | ok a s' =>
    rw [e] at h
    intro v H1 R1 x1 d1 r
    exact SFin.base (r := f a s') h x1 (fun i a z => .inl ⟨i, z⟩) R1.mok R.mp R.mq
  | exc c l s' =>
    rw [e] at h
    exact h
  | bad =>
    rw [e] at h
    exact h.elim
theorem XFin.mono {r : Out (D × PEnv)} {Q Q' : D → PEnv → Dl → V → Hp → Prop} (h : XFin E W M0 A H σ r Q) (k : ∀ d ρ' s' v H', r = .ok (d, ρ') s' → ER E M0 A H' σ ρ' → Ext (Chg E A) H H' → DealAt E H' s' → Rep E (Own M0 A) H' v d → Q d ρ' s' v H' → Q' d ρ' s' v H') : XFin E W M0 A H σ r Q' := by
  cases r with
  | ok p s' =>
    obtain ⟨d, ρ'⟩ := p
    exact fun v H' R x dl rp => k d ρ' s' v H' rfl R x dl rp (h v H' R x dl rp)
  | exc c l s' => exact h
  | bad => exact h
theorem XFin.lift {α : Type} {o : Option α} {f : α → M (D × PEnv)} {Q : D → PEnv → Dl → V → Hp → Prop} (h : XFin E W M0 A H σ ((PL.lift o >>= f) s) Q) : ∃ a, o = some a ∧ XFin E W M0 A H σ (f a s) Q := by
  cases o with
  | none => exact h.elim
  | some a => exact ⟨a, rfl, h⟩
/-- behind a plain expression within -/
theorem XFin.expr {α : Type} {m : M α} {f : α → M (D × PEnv)} {Q : D → PEnv → Dl → V → Hp → Prop} (R : ER E M0 A H σ ρ) (h : XFin E W M0 A H σ ((m >>= f) s) Q) : Fin E W H (m s) fun a s' H' => XFin E W M0 A H' σ (f a s') Q := by
  rw [bind_run] at h
  cases e : m s with
  | ok a s' =>
    rw [e] at h
    intro H1 x1 d1
    have h : XFin E W M0 A H σ (f a s') Q := h
    show XFin E W M0 A H1 σ (f a s') Q
    have xc : Ext (Chg E A) H H1 := x1.mono fun _ z => .inl z
    cases e2 : f a s' with
    | ok p s2 =>
      rw [e2] at h
      obtain ⟨d, ρ'⟩ := p
      exact fun v H' R' x d r => h v H' R' (xc.trans x) d r
    | exc c l s2 =>
      rw [e2] at h
      exact fun H' dct x d q => h H' dct (xc.trans x) d q
    | bad =>
      rw [e2] at h
      exact h
  | exc c l s' =>
    rw [e] at h
    exact fun H' dct x d q => h H' dct (x.mono fun _ z => .inl z) d q
  | bad =>
    rw [e] at h
    exact h.elim
end
section
variable {X : Cx} {E : Ev} {W : XK} {lv : Lv} {k : Nat} {e e1 e2 tg : Expr} {x y : Str} {pos p : Pos} {m : PEnv → M D} {mx : PEnv → M (D × PEnv)}
def popAtN (l : List D) (j : D) : Option Nat := (asIO j).bind fun z => if -(2 ^ 63) ≤ z ∧ z < 2 ^ 63 then seqIndex? z l.length else none
def popM (i : Nat) (mj : PEnv → M D) : PEnv → M (D × PEnv) := fun ρ => lift (muAt i ρ) >>= fun l => mj ρ >>= fun j => lift (popAtN l j) >>= fun q => lift l[q]? >>= fun d => pure (d, ρ.set i (.mu (l.eraseIdx q)))
def popLM (i : Nat) : PEnv → M (D × PEnv) := fun ρ => lift (muAt i ρ) >>= fun l => lift l[l.length - 1]? >>= fun d => pure (d, ρ.set i (.mu l.dropLast))
theorem RepA.eraseIdx {E : Ev} {Mv : Addr → Prop} {H : Hp} : ∀ {xs : List V} {us : List D} (i : Nat), RepA E Mv H xs us → RepA E Mv H (xs.eraseIdx i) (us.eraseIdx i)
  | _, _, _, .nil => .nil
  | _, _, 0, .cons _ t => t
  | _, _, i + 1, .cons q t => .cons q (RepA.eraseIdx i t)
theorem RepA.dropLast {E : Ev} {Mv : Addr → Prop} {H : Hp} {xs : List V} {us : List D} (r : RepA E Mv H xs us) : RepA E Mv H xs.dropLast us.dropLast := by
  rw [List.dropLast_eq_take, List.dropLast_eq_take, r.length]
  exact r.take _
/-- a store into a list of one's own keeps what is borne -/
theorem ext_own {M0 : Addr → Prop} {A : Nat → Option Addr} {H : Hp} {σ : L2.St} {ρ : PEnv} (R : ER E M0 A H σ ρ) {i : Nat} {a : Addr} (o1 : A i = some a) {o : HO} {vs : List V} {ds : List D} (r : RepA E (Own M0 A) H vs ds) : RepA E (Own M0 A) (upd H a o) vs ds :=
  RepA.extS (Mw := fun b => b = a) (fun b u e n => by rw [upd_ne n]; exact e) (fun b z => by rw [z]; exact R.mok a (.inr ⟨i, o1⟩)) (fun b z => by rw [z]; exact .inr ⟨i, o1⟩) r
theorem ext_own1 {M0 : Addr → Prop} {A : Nat → Option Addr} {H : Hp} {σ : L2.St} {ρ : PEnv} (R : ER E M0 A H σ ρ) {i : Nat} {a : Addr} (o1 : A i = some a) {o : HO} {v : V} {d : D} (r : Rep E (Own M0 A) H v d) : Rep E (Own M0 A) (upd H a o) v d := by
  have := ext_own R o1 (o := o) (RepA.cons r .nil)
  cases this with
  | cons h _ => exact h
theorem x_popAt (c : Ctx X E W k) (i : Nat) {p1 p2 p3 : Pos} (h : CE X E W .sh e m) (hN : X.N[i]? = some x := by rfl) (hv : Vis X.env.scope x := by first | exact Or.inl rfl | exact Or.inr (Or.inl rfl) | exact Or.inr (Or.inr rfl)) (hd : (x == ("__debug__" : Str)) = false := by decide)
    (hcd : (x == ("__classdict__" : Str)) = false := by decide) (hbase : attributeBase (.Name x p1) "pop" X.env (eval (.Name x p1) X.env) = eval (.Name x p1) X.env := by rfl)
    (hfew : ((backTo p3 (starEach [e] X.env)).all (fun x => !x.1) && (backToKw p3 (keywordEach [] X.env)).all (fun x => x.1.isSome)
      && decide (([e] : List Expr).length + ([] : List Keyword).length + (if ([] : List Keyword).isEmpty then 0 else 1) < 30)) = true := by rfl)
    (hline : (p2.endLine == p3.line) = true := by rfl) (hs : starEach [e] X.env = (false, eval e X.env) :: starEach [] X.env := by rfl) :
    CX X E W (.Call (.Attribute (.Name x p1) "pop" p2) [e] [] p3) (popM i m) := by
  obtain ⟨t, p, k1⟩ := h
  refine ⟨_, pe_bm PySem.F.plainAttrs_list PySem.F.slot_list_pop PySem.F.type_list_pop mt_popAt (pe_var (i := i) hN hv hd hcd) (pa_cons p pa_nil hs) hbase hfew hline hs rfl, fun σ H ρ s M0 A Q R dl h => ?_⟩
  unfold popM at h
  obtain ⟨l, el, h⟩ := h.lift
  have e0 := muAt_some el
  obtain ⟨a, vs, o1, o2, o3, o4⟩ := R.at_ i _ e0
  refine ⟨.ref a, o2, .inl ⟨rfl, vs, SqL.of o3⟩, ?_⟩
  refine k1 σ H ρ s M0 A _ R dl ((h.expr R).mono fun j s1 H1 _ x1 d1 h v r => ?_)
  have R1 := R.ext x1 d1
  obtain ⟨q, e2, h2⟩ := h.lift
  obtain ⟨d, e3, h3⟩ := h2.lift
  unfold popAtN at e2
  rw [Option.bind_eq_some_iff] at e2
  obtain ⟨z, e4, e5⟩ := e2
  split at e5
  · rename_i hz
    cases j with
    | int zj =>
      cases e4
      obtain rfl := r.int
      obtain ⟨a', us, q1, q2, q3, q4⟩ := R1.at_ i _ e0
      rw [o1] at q1
      cases q1
      obtain ⟨y, hy, ry⟩ := q4.get e3
      refine ⟨a, us, _, q, y, rfl, rfl, q3, hz.1, hz.2, by rw [q4.length]; exact e5, hy, ?_⟩
      exact h3 y _ (R1.write o1 trivial ⟨a, us.eraseIdx q, rfl, q2, upd_same, ext_own R1 o1 (q4.eraseIdx q)⟩) (Ext.upd_own o1) (DealAt.upd_own R1 o1 d1) (ext_own1 R1 o1 ry)
    | _ => cases e4
  · cases e5
theorem x_pop (c : Ctx X E W k) (i : Nat) {p1 p2 p3 : Pos} (hN : X.N[i]? = some x := by rfl) (hv : Vis X.env.scope x := by first | exact Or.inl rfl | exact Or.inr (Or.inl rfl) | exact Or.inr (Or.inr rfl)) (hd : (x == ("__debug__" : Str)) = false := by decide)
    (hcd : (x == ("__classdict__" : Str)) = false := by decide) (hbase : attributeBase (.Name x p1) "pop" X.env (eval (.Name x p1) X.env) = eval (.Name x p1) X.env := by rfl)
    (hline : (p2.endLine == p3.line) = true := by rfl) :
    CX X E W (.Call (.Attribute (.Name x p1) "pop" p2) [] [] p3) (popLM i) := by
  refine ⟨_, pe_bm0 PySem.F.plainAttrs_list PySem.F.slot_list_pop PySem.F.type_list_pop mt_pop (pe_var (i := i) hN hv hd hcd) hbase hline, fun σ H ρ s M0 A Q R dl h => ?_⟩
  unfold popLM at h
  obtain ⟨l, el, h⟩ := h.lift
  have e0 := muAt_some el
  obtain ⟨a, vs, o1, o2, o3, o4⟩ := R.at_ i _ e0
  obtain ⟨d, e3, h⟩ := h.lift
  obtain ⟨y, hy, ry⟩ := o4.get e3
  refine ⟨.ref a, o2, .inl ⟨rfl, vs, SqL.of o3⟩, a, vs, y, rfl, rfl, o3, by rw [o4.length]; exact hy, ?_⟩
  exact h y _ (R.write o1 trivial ⟨a, vs.dropLast, rfl, o2, upd_same, ext_own R o1 o4.dropLast⟩) (Ext.upd_own o1) (DealAt.upd_own R o1 dl) (ext_own1 R o1 ry)
/-- such an expression as a statement, as a store, appended -/
theorem s_exprX (h : CX X E W e mx) (hs : swapsWith e none pos.line X.env = pure false := by rfl) : CS X E W (.Expr e pos) (fun ρ => mx ρ >>= fun r => pure (.nx, r.2)) := by
  obtain ⟨t, p, k⟩ := h
  refine ⟨_, ps_expr p hs, fun σ H ρ s M0 A D R dl h => ?_⟩
  refine k σ H ρ s M0 A _ R dl ((h.exprX R).mono fun d ρ' s' v H' _ R' x' d' _ h => ?_)
  exact h σ H' A R' Ext.refl Sub.refl d'
theorem s_asgX {ns : List Nat} {g : D → PEnv → Option PEnv} (h : CX X E W e mx) (hg : CT1 X E tg ns g) (hs : swapsWithSole [tg] e pos.line X.env = pure false := by rfl) (hw : swappedStores [tg] e X.env = pure none := by rfl)
    (h1 : (assignEach [tg] X.env).map (·.2) = [assign tg X.env] := by rfl) : CS X E W (.Assign [tg] e pos) (fun ρ => mx ρ >>= fun r => lift (g r.1 r.2) >>= fun ρ' => pure (.nx, ρ')) := by
  obtain ⟨t, p, k⟩ := h
  obtain ⟨u, q, kg⟩ := hg
  refine ⟨_, ps_asg p q hs hw h1, fun σ H ρ s M0 A D R dl h => ?_⟩
  refine k σ H ρ s M0 A _ R dl ((h.exprX R).mono fun d ρ1 s1 v H1 _ R1 x1 d1 r h => ?_)
  obtain ⟨ρ', e, h⟩ := h.lift
  exact kg σ H1 ρ1 ρ' M0 A v d _ R1 r e fun σ' A' R' l' _ _ => h σ' H1 A' R' Ext.refl (Sub.less l') d1
theorem s_setX (c : Ctx X E W k) (i : Nat) {pos' : Pos} (h : CX X E W e mx) (hi : X.N[i]? = some x := by rfl) (hx : Loc X.env.scope x := by first | exact Or.inl rfl | exact Or.inr rfl) (hs : swapsWith e (some (.Name x pos')) pos.line X.env = pure false := by rfl)
    (hf : X.fn x = true ∨ X.env.scope.names.lookup x = some .local := by first | exact .inl rfl | exact .inr rfl) : CS X E W (.Assign [.Name x pos'] e pos) (fun ρ => mx ρ >>= fun r => pure (.nx, r.2.set i (.im r.1))) := by
  obtain ⟨t, p, k⟩ := h
  refine ⟨_, ps_set c.nd hi hx p hs hf, fun σ H ρ s M0 A D R dl h => ?_⟩
  refine k σ H ρ s M0 A _ R dl ((h.exprX R).mono fun d ρ1 s1 v H1 _ R1 x1 d1 r h => ?_)
  exact h _ H1 _ (R1.setI r) Ext.refl (Sub.less fun j b z => clr_some z) d1
def appXM (i : Nat) (mx : PEnv → M (D × PEnv)) : PEnv → M (Fl × PEnv) := fun ρ => lift (muAt i ρ) >>= fun _ => mx ρ >>= fun r => lift (muAt i r.2) >>= fun l => lift (if l.length < sizeLine then some () else none) >>= fun _ => pure (.nx, r.2.set i (.mu (l ++ [r.1])))
theorem s_appendX (c : Ctx X E W k) (i : Nat) {p1 p2 p3 p4 : Pos} (h : CX X E W e mx) (hN : X.N[i]? = some x := by rfl) (hv : Vis X.env.scope x := by first | exact Or.inl rfl | exact Or.inr (Or.inl rfl) | exact Or.inr (Or.inr rfl)) (hd : (x == ("__debug__" : Str)) = false := by decide)
    (hcd : (x == ("__classdict__" : Str)) = false := by decide) (hbase : attributeBase (.Name x p1) "append" X.env (eval (.Name x p1) X.env) = eval (.Name x p1) X.env := by rfl)
    (hfew : ((backTo p3 (starEach [e] X.env)).all (fun x => !x.1) && (backToKw p3 (keywordEach [] X.env)).all (fun x => x.1.isSome)
      && decide (([e] : List Expr).length + ([] : List Keyword).length + (if ([] : List Keyword).isEmpty then 0 else 1) < 30)) = true := by rfl)
    (hline : (p2.endLine == p3.line) = true := by rfl) (hs : starEach [e] X.env = (false, eval e X.env) :: starEach [] X.env := by rfl)
    (hsw : swapsWith (.Call (.Attribute (.Name x p1) "append" p2) [e] [] p3) none p4.line X.env = pure false := by rfl) :
    CS X E W (.Expr (.Call (.Attribute (.Name x p1) "append" p2) [e] [] p3) p4) (appXM i mx) := by
  obtain ⟨t, p, k⟩ := h
  refine ⟨_, ps_expr (pe_bm PySem.F.plainAttrs_list PySem.F.slot_list_append PySem.F.type_list_append mt_append (pe_var (i := i) hN hv hd hcd) (pa_cons p pa_nil hs) hbase hfew hline hs rfl) hsw, fun σ H ρ s M0 A D R dl h => ?_⟩
  unfold appXM at h
  obtain ⟨l, el, h⟩ := h.lift
  have e0 := muAt_some el
  obtain ⟨a, vs, o1, o2, o3, o4⟩ := R.at_ i _ e0
  refine ⟨.ref a, o2, .inl ⟨rfl, vs, SqL.of o3⟩, ?_⟩
  refine k σ H ρ s M0 A _ R dl ((h.exprX R).mono fun d ρ1 s1 v H1 _ R1 x1 d1 r h => ?_)
  obtain ⟨l1, el1, h⟩ := h.lift
  have e1 := muAt_some el1
  obtain ⟨_, e2, h⟩ := h.lift
  split at e2
  · rename_i hz
    obtain ⟨a', us, q1, q2, q3, q4⟩ := R1.at_ i _ e1
    rw [o1] at q1
    cases q1
    refine ⟨a, us, v, rfl, rfl, q3, by rw [q4.length]; exact hz, ?_⟩
    exact h σ _ A (R1.write o1 trivial ⟨a, us ++ [v], rfl, q2, upd_same, ext_own R1 o1 (q4.append (.cons r .nil))⟩) (Ext.upd_own o1) Sub.refl (DealAt.upd_own R1 o1 d1)
  · cases e2
end
end PL
end
section
set_option Elab.async false
set_option linter.all false
set_option maxRecDepth 100000
/-! PL16: instances of plain record classes. -/
namespace PL
open PySem PySem.Spec L2
/-- the fields as they are stored -/
def fldsV (fs : List (Str × V)) : List (Str × V) := fs.foldl (fun acc p => putF p.1 p.2 acc) []
/-- __init__ of a record of two fields -/
def spInit2 (C : Addr) (f1 f2 : Str) : Sp := fun vs H Q _ => ∃ (p dx : Addr) (x y : V), vs = [.ref p, x, y] ∧ H p = some (.ins C dx []) ∧ Q .non (upd (upd H p (.ins C dx (putF f1 x []))) p (.ins C dx (putF f2 y (putF f1 x []))))
section
variable {X : Cx} {E : Ev} {W : XK} {lv : Lv} {k j : Nat} {f C : Addr} {fd : FuncData} {ps : List Str} {cn x : Str} {p pos : Pos} {e : Expr} {es : List Expr} {n : PEnv → M (List D)}
theorem guards_make {A : Around} {us : List Value} {kw : List (Str × Value)} (h : A.guards = some []) : (A.under (.builtin "type.__call__" ⟨.ref C :: us, kw⟩)).guards = some [] := by
  first
    | exact h
    | simp [Around.under, Code.weight, Code.isCreation, Code.isGuard, Code.isCaller, Code.frames, Code.isFrame, guardIds, h]
theorem make_g {sp : Sp} {pins : List (Addr × Obj)} {σ : L2.St} {H : Hp} {s : Shared} {Q : VK} {us : List Value} {vs : List V} (T : Mk X.K C f) (G : GOk X.prog X.w X.K X.mg X.base j f fd ps sp) (hg : X.A.guards = some []) (hr : Room (j + 1) X.A) (hx : Passes (L2.CX X.prog X.w) X W)
    (hb : Binds X.K fd ps []) (I : Inv X pins σ H s) (r : Vals vs us) (h : ∀ x dx, H x = none → H dx = none → dx ≠ x → sp (.ref x :: vs) (upd (upd H dx (.own x)) x (.ins C dx [])) (fun v H2 => v = .non ∧ Q (.ref x) H2) W) :
    wpAny (model X.prog X.w) X.A (call (.ref C) us) (EP X pins σ Q) X.xe s := by
  have hq := h (s.heap.objs.size + 1) s.heap.objs.size (I.hok.fresh (Nat.le_succ _)) (I.hok.fresh (Nat.le_refl _)) (fun z => absurd z (Nat.ne_of_lt (Nat.lt_succ_self _)))
  have J := Inv.made (C := C) I
  have r2 : Vals (.ref (s.heap.objs.size + 1) :: vs) (Value.ref (s.heap.objs.size + 1) :: us) := .cons rfl r
  have hl := G.len _ _ _ _ hq
  rw [r2.length] at hl
  have hb2 := hb _ (Value.ref (s.heap.objs.size + 1) :: us) J.kIn (by rw [List.append_nil]; exact hl)
  rw [List.append_nil] at hb2
  refine wpAny_call (make_map (f := f) I.kIn T.makes T.init (beq_iff_eq.mp T.fn) (codeAny_mono (G.go _ X.stack _ _ ⟨_, []⟩ _ _ _ W (guards_make hg) (hr.make C us []) (J.env0.make C us []) hb2 r2 hq) ?_))
  intro z s' z2
  match z, z2 with
  | .error e, z2 => exact hx pins σ _ _ e s' J z2
  | .ok (.ret u), z2 =>
    obtain ⟨v, H', I3, rv, ev, q3⟩ := J.after z2
    subst ev
    exact ⟨rv, ⟨V.ref (s.heap.objs.size + 1), H', I3, rfl, q3⟩⟩
  | .ok .next, z2 => exact z2.elim
  | .ok .brk, z2 => exact z2.elim
  | .ok .cont, z2 => exact z2.elim
def tMakeG (C : Addr) (sp : Sp) (W : XK) (t : TA) : TE := fun σ H Q => t σ H fun vs H1 => ∀ x dx, H1 x = none → H1 dx = none → dx ≠ x → sp (.ref x :: vs) (upd (upd H1 dx (.own x)) x (.ins C dx [])) (fun v H2 => v = .non ∧ Q (.ref x) H2) W
theorem pe_makeG {t : TA} {sp : Sp} (T : Mk X.K C f) (G : GOk X.prog X.w X.K X.mg X.base j f fd ps sp) (gr : X.A.guards = some []) (hr : Room (j + 1) X.A) (hx : Passes (L2.CX X.prog X.w) X W) (hb : Binds X.K fd ps []) (hm : X.mg x = some (.ref C)) (ha : PA X (e :: es) t)
    (hg : Gl X x) (hdb : (x == ("__debug__" : Str)) = false) (he : starEach (e :: es) X.env = (false, eval e X.env) :: starEach es X.env) (hpl : (backTo pos (starEach es X.env)).any (·.1) = false) :
    PE X (.Call (.Name x p) (e :: es) [] pos) (tMakeG C sp W t) := by
  refine ⟨fun pins s σ H Q I h => wpAny_Call_Name_kw (ld_glob I hg hm ?_ hdb)⟩
  refine PySem.W.callWith_K (h₀ := X.base) I.ok.mod.kin T.kp (thn (ha.run pos pins s σ H _ I h) ?_) he hpl
  rintro us s1 ⟨vs, H1, I1, r, q⟩
  exact ⟨I1.kIn, make_g T G gr hr hx hb I1 r q⟩
/-- a class of two fields, as its module has made it -/
structure Rec2 (P : Program) (w : World) (K : PySem.W.Frag) (mg : Str → Option Value) (base : Heap) (C : Str → Addr) (cn f1 f2 : Str) : Prop where
  ex : ∃ f fd ps, Mk K (C cn) f ∧ GOk P w K mg base 1 f fd ps (spInit2 (C cn) f1 f2) ∧ Binds K fd ps []
  cl : Cls K (C cn)
  n1 : NoAttr K (C cn) f1
  n2 : NoAttr K (C cn) f2
  mgC : mg cn = some (.ref (C cn))
def ins2 (cn f1 f2 : Str) : List D → M D
  | [a, b] => pure (.ins cn [(f1, a), (f2, b)])
  | _ => fail
theorem c_make2 {f1 f2 : Str} (c : Ctx X E W k) (T : Rec2 X.prog X.w X.K X.mg X.base E.C x f1 f2) (ha : CA X E W .full (e :: es) n) (ne : f1 ≠ f2 := by decide) (hk : 2 ≤ k := by decide)
    (hg : Gl X x := by rfl) (hdb : (x == ("__debug__" : Str)) = false := by decide) (he : starEach (e :: es) X.env = (false, eval e X.env) :: starEach es X.env := by rfl) (hpl : (backTo pos (starEach es X.env)).any (·.1) = false := by rfl) :
    CE X E W lv (.Call (.Name x p) (e :: es) [] pos) (fun ρ => n ρ >>= ins2 x f1 f2) := by
  refine CE.any ?_
  obtain ⟨t, pp, kk⟩ := ha
  obtain ⟨f, fd, ps, MK, G, hb⟩ := T.ex
  refine ⟨_, pe_makeG MK G c.gd (c.rm.mono hk) c.ps hb T.mgC pp hg hdb he hpl, fun σ H ρ s M0 A Q R dl h => ?_⟩
  refine kk σ H ρ s M0 A _ R dl (h.bind.mono fun ds s1 H1 _ x1 d1 h vs rs => ?_)
  have R1 := R.ext x1 d1
  have ra := pairedA rs
  intro q dx hq hdx nq
  match ds, h with
  | [a, b], h =>
    cases ra with
    | cons r1 ra =>
      cases ra with
      | cons r2 ra =>
        cases ra
        rename_i v1 v2
        refine ⟨q, dx, v1, v2, rfl, upd_same, rfl, ?_⟩
        have eF : putF f2 v2 (putF f1 v1 []) = [(f1, v1), (f2, v2)] := by
          show (if f1 = f2 then _ else (f1, v1) :: putF f2 v2 []) = _
          rw [if_neg ne]
          rfl
        rw [eF]
        have xq : ∀ {o1 o2 o3 o4 : HO} (Mv : Addr → Prop), Ext Mv H1 (upd (upd (upd (upd H1 dx o1) q o2) q o3) q o4) := fun {o1 o2 o3 o4} Mv b u e _ => by
          rw [upd_ne (ne_of_none e hq), upd_ne (ne_of_none e hq), upd_ne (ne_of_none e hq), upd_ne (ne_of_none e hdx)]
          exact e
        refine h _ (xq _) ⟨fun o => xq (fun _ => False) _ _ (d1.p o) id, fun o => xq (fun _ => False) _ _ (d1.q o) id⟩ _ ?_
        have Mq : ¬ Own M0 A q := not_own R1.mok hq
        have rr : RepA E (Own M0 A) H1 [v1, v2] [a, b] := .cons r1 (.cons r2 .nil)
        exact Rep.ins (dx := dx) (fvs := [(f1, v1), (f2, v2)]) upd_same Mq rfl (rr.ext (xq _) R1.mok)
/-- the promise kept -/
theorem gok_init2 {P : Program} {w : World} {K : PySem.W.Frag} {mg : Str → Option Value} {base : Heap} {d : He.DefD} {C f : Addr} {fd : FuncData} {N ps : List Str} {f1 f2 : Str} {x1 x2 x0 : Str} {p1 p2 p3 p4 p5 p6 p7 p8 : Pos} (F : FunD K d.name d.qual d.params d.body d.scope [] [] f fd) (S : FnScope [x0, x1, x2] [x0, x1, x2] d.scope)
    (eb : d.body = [.Assign [.Attribute (.Name x0 p1) f1 p2] (.Name x1 p3) p4, .Assign [.Attribute (.Name x0 p5) f2 p6] (.Name x2 p7) p8]) (cl : Cls K C) (n1 : NoAttr K C f1) (n2 : NoAttr K C f2)
    (e0 : ∀ (cdv : Value) (A : Around) (st : List Env) (s : Shared) (H : Hp) (W : XK), let X := cxOf (L2.CX P w) P w K mg base [x0, x1, x2] d.qual d.scope f cdv A st s H W
      Vis X.env.scope x0 ∧ Vis X.env.scope x1 ∧ Vis X.env.scope x2 ∧ swapsWith (.Name x1 p3) (some (.Attribute (.Name x0 p1) f1 p2)) p4.line X.env = pure false ∧ swapsWith (.Name x2 p7) (some (.Attribute (.Name x0 p5) f2 p6)) p8.line X.env = pure false)
    (h0 : (x0 == ("__debug__" : Str)) = false ∧ (x0 == ("__classdict__" : Str)) = false) (h1 : (x1 == ("__debug__" : Str)) = false ∧ (x1 == ("__classdict__" : Str)) = false) (h2 : (x2 == ("__debug__" : Str)) = false ∧ (x2 == ("__classdict__" : Str)) = false) :
    GOk P w K mg base 1 f fd [x0, x1, x2] (spInit2 C f1 f2) := by
  refine gok_of F S (fun vs H Q W h => ?_) (fun cdv A st s H vs Q W hg hr h => ?_)
  · obtain ⟨p, dx, x, y, rfl, _⟩ := h
    rfl
  · obtain ⟨p, dx, x, y, rfl, hp, q⟩ := h
    obtain ⟨v0, v1, v2, s1, s2⟩ := e0 cdv A st s H W
    rw [eb]
    refine ⟨_, pss_cons (ps_fld (pe_var (i := 0) rfl v0 h0.1 h0.2) (pe_var (i := 1) rfl v1 h1.1 h1.2) s1) (pss_one (ps_fld (pe_var (i := 0) rfl v0 h0.1 h0.2) (pe_var (i := 2) rfl v2 h2.1 h2.2) s2)), ?_⟩
    exact ⟨_, rfl, _, rfl, p, C, dx, [], rfl, hp, cl, n1, (by show 0 < 1000; decide), _, rfl, _, rfl, p, C, dx, _, rfl, upd_same, cl, n2, (by show 1 < 1000; decide), q⟩
end
end PL
end
section
set_option Elab.async false
set_option linter.all false
set_option maxRecDepth 100000
/-! PL17: the deal's own operations. -/
namespace PL
open PySem PySem.Spec L2
theorem DealAt.ne {E : Ev} {H : Hp} {s : Dl} (d : DealAt E H s) (o : E.on = true) : E.p ≠ E.q := fun e => by
  have h1 := d.p o
  rw [e, d.q o] at h1
  have h2 : (s.ds.map V.int) = [.ref E.q, .int s.mix] := by injection h1 with h1; injection h1
  cases hd : s.ds with
  | nil => rw [hd] at h2; cases h2
  | cons i l => rw [hd] at h2; cases h2
theorem DealAt.setQ {E : Ev} {H : Hp} {s : Dl} (d : DealAt E H s) (l : List Int) : DealAt E (upd H E.q (.lst (l.map V.int))) { s with ds := l } :=
  ⟨fun o => by rw [upd_ne (d.ne o)]; exact d.p o, fun _ => upd_same⟩
theorem DealAt.setP {E : Ev} {H : Hp} {s : Dl} (d : DealAt E H s) (i : Int) : DealAt E (upd H E.p (.lst [.ref E.q, .int i])) { s with mix := i } :=
  ⟨fun _ => upd_same, fun o => by rw [upd_ne (d.ne o).symm]; exact d.q o⟩
theorem Ext.dq {E : Ev} {H : Hp} {o : HO} (on : E.on = true) : Ext (Dm E) H (upd H E.q o) := fun b u e n => by rw [upd_ne fun z => n ⟨on, .inr z⟩]; exact e
theorem Ext.dp {E : Ev} {H : Hp} {o : HO} (on : E.on = true) : Ext (Dm E) H (upd H E.p o) := fun b u e n => by rw [upd_ne fun z => n ⟨on, .inl z⟩]; exact e
section
variable {E : Ev} {M0 : Addr → Prop} {A : Nat → Option Addr} {H : Hp} {x : V}
theorem sh_deal (h : RepL E M0 A H .sh x .deal) : x = .ref E.p ∧ E.on = true := by
  rcases h with h | ⟨_, _, _, _, _, _, h, _⟩ | ⟨_, _, _, _, _, _, h, _⟩
  · cases h; exact ⟨rfl, by assumption⟩
  · cases h
  · cases h
theorem sh_dealL (h : RepL E M0 A H .sh x .dealL) : x = .ref E.q ∧ E.on = true := by
  rcases h with h | ⟨_, _, _, _, _, _, h, _⟩ | ⟨_, _, _, _, _, _, h, _⟩
  · cases h; exact ⟨rfl, by assumption⟩
  · cases h
  · cases h
end
def dealIx (a b : D) : M D := fun s => match a, b with
  | .deal, .int i => if i = 0 then .ok .dealL s else if i = 1 then .ok (.int s.mix) s else .bad
  | .dealL, .int i => if i = -1 then (match s.ds[s.ds.length - 1]? with
    | some z => .ok (.int z) s
    | none => .bad) else .bad
  | _, _ => .bad
def dealNe (a b : D) : M D := fun s => match a, b with
  | .dealL, .lst [] => .ok (.bl (!s.ds.isEmpty)) s
  | _, _ => .bad
def dealPop (a : D) : M D := fun s => match a with
  | .dealL => (match s.ds[s.ds.length - 1]? with
    | some z => .ok (.int z) { s with ds := s.ds.dropLast }
    | none => .bad)
  | _ => .bad
def dealAp1 (a : D) : M Unit := fun s => match a with
  | .dealL => .ok () s
  | _ => .bad
def dealApp (b : D) : M D := fun s => match b with
  | .int i => if s.ds.length < sizeLine then .ok .non { s with ds := s.ds ++ [i] } else .bad
  | _ => .bad
def dealSet (a b d : D) : M Unit := fun s => match a, b, d with
  | .deal, .int j, .int i => if j = 1 then .ok () { s with mix := i } else .bad
  | _, _, _ => .bad
theorem Fin.run {E : Ev} {W : XK} {α : Type} {H : Hp} {r : Out α} {a : α} {s : Dl} {Q : α → Dl → Hp → Prop} (h : Fin E W H r Q) (e : r = .ok a s) : ∀ H', Ext (Dm E) H H' → DealAt E H' s → Q a s H' := by
  subst e
  exact h
section
variable {X : Cx} {E : Ev} {W : XK} {lv : Lv} {k : Nat} {e e1 e2 : Expr} {x : Str} {pos p : Pos} {m m1 m2 : PEnv → M D}
theorem atI_last {l : List Int} {z : Int} (h : l[l.length - 1]? = some z) : atI (l.map V.int) (-1) = some (.int z) := by
  cases l with
  | nil => cases h
  | cons i r =>
    have e : ixN ((i :: r).map V.int).length (-1) = some ((i :: r).length - 1) := by
      unfold ixN
      simp only [List.length_map, List.length_cons]
      rw [if_neg (by decide), if_pos (by omega)]
      congr 1
      omega
    unfold atI
    rw [e]
    show ((i :: r).map V.int)[(i :: r).length - 1]? = _
    rw [List.getElem?_map, h]
    rfl
theorem d_dealIx (hK : E.K = X.K) : OpD E W (rIx X.K) dealIx := by
  intro σ H ρ s M0 A Q x y a b R dl ra rb h
  unfold dealIx at h
  split at h
  · rename_i i
    obtain rfl := rb.int
    obtain ⟨rfl, on⟩ := sh_deal ra
    split at h
    · rename_i hi
      subst hi
      exact .inl ⟨E.p, [.ref E.q, .int s.mix], 0, .ref E.q, rfl, rfl, SqL.of (dl.p on), rfl, h.run rfl H Ext.refl dl _ (.dealL on)⟩
    · split at h
      · rename_i hi
        subst hi
        exact .inl ⟨E.p, [.ref E.q, .int s.mix], 1, .int s.mix, rfl, rfl, SqL.of (dl.p on), rfl, h.run rfl H Ext.refl dl _ (.int _)⟩
      · exact h.elim
  · rename_i i
    obtain rfl := rb.int
    obtain ⟨rfl, on⟩ := sh_dealL ra
    split at h
    · rename_i hi
      subst hi
      cases e : s.ds[s.ds.length - 1]? with
      | none => rw [e] at h; exact h.elim
      | some z =>
        rw [e] at h
        exact .inl ⟨E.q, s.ds.map V.int, -1, .int z, rfl, rfl, SqL.of (dl.q on), atI_last e, h.run rfl H Ext.refl dl _ (.int _)⟩
    · exact h.elim
  · exact h.elim
theorem dp_ints {K : PySem.W.Frag} {H : Hp} : ∀ l : List Int, DpAll K H (l.map V.int) (l.map PyData.int)
  | [] => .nil
  | i :: l => .cons (.int i) (dp_ints l)
theorem lay_ints : ∀ l : List Int, PyData.canLayAll0 (l.map PyData.int) = true
  | [] => by simp [PyData.canLayAll0]
  | i :: l => by simp [PyData.canLayAll0, PyData.canLay0, lay_ints l]
theorem shaped_ints (l : List Int) : SeqAt.shaped (.list (l.map PyData.int)) = true := by
  have h := PySem.W.depth_ints l
  show ((PyData.list (l.map PyData.int)).canLay0 && decide ((PyData.list (l.map PyData.int)).depth ≤ 64)) = true
  rw [Bool.and_eq_true]
  refine ⟨by simp [PyData.canLay0, lay_ints l], decide_eq_true ?_⟩
  simp only [PyData.depth, h]
  omega
theorem d_dealNe (hK : E.K = X.K) : OpD E W (rNeD X.K) dealNe := by
  intro σ H ρ s M0 A Q x y a b R dl ra rb h
  unfold dealNe at h
  split at h
  · obtain ⟨rfl, on⟩ := sh_dealL ra
    obtain ⟨a, vs, rfl, h1, r1⟩ := sh_lst rb
    cases r1
    refine ⟨.list (s.ds.map PyData.int), .list [], .lst (SqL.of (dl.q on)) (dp_ints _), .lst (SqL.of h1) .nil, shaped_ints _, by decide, ?_⟩
    have e : (!(PyData.list (s.ds.map PyData.int)).eqv (.list [])) = !s.ds.isEmpty := by
      cases s.ds <;> simp [PyData.eqv, PyData.eqvAll]
    rw [e]
    exact h.run rfl H Ext.refl dl _ (.bl _)
  · exact h.elim
theorem x_deal (c : Ctx X E W k) (ha : CE X E W .sh e1 m1) (hb : CE X E W .sh e2 m2) (hs : PlainIx e2 := by exact fun _ _ => rfl) : CE X E W lv (.Subscript e1 e2 pos) (fun ρ => m1 ρ >>= fun a => m2 ρ >>= fun b => dealIx a b) :=
  c_ixR ix_seq (d_dealIx c.K) ha hb hs
theorem t_dealNe (c : Ctx X E W k) (ha : CE X E W .sh e1 m1) (hb : CE X E W .sh e2 m2) : CT X E W (.Compare e1 [.NotEq] [e2] pos) (fun ρ => (m1 ρ >>= fun a => m2 ρ >>= fun b => dealNe a b) >>= asB) := t_cmp (op_neD c.rm.units) (d_dealNe c.K) ha hb (nomark _)
theorem x_dealPop (c : Ctx X E W k) {p2 p3 : Pos} (ha : CE X E W .sh e1 m1) (hbase : attributeBase e1 "pop" X.env (eval e1 X.env) = eval e1 X.env := by rfl) (hline : (p2.endLine == p3.line) = true := by rfl) :
    CE X E W lv (.Call (.Attribute e1 "pop" p2) [] [] p3) (fun ρ => m1 ρ >>= dealPop) := by
  refine CE.any ?_
  obtain ⟨t, pp, kk⟩ := ha
  refine ⟨_, pe_bm0 PySem.F.plainAttrs_list PySem.F.slot_list_pop PySem.F.type_list_pop mt_pop pp hbase hline, fun σ H ρ s M0 A Q R dl h => ?_⟩
  refine kk σ H ρ s M0 A _ R dl (h.bind.mono fun d s1 H1 _ x1 d1 h v r => ?_)
  unfold dealPop at h
  split at h
  · obtain ⟨rfl, on⟩ := sh_dealL r
    cases e : s1.ds[s1.ds.length - 1]? with
    | none => rw [e] at h; exact h.elim
    | some z =>
      rw [e] at h
      refine ⟨.inl ⟨rfl, _, SqL.of (d1.q on)⟩, E.q, s1.ds.map V.int, .int z, rfl, rfl, d1.q on, by rw [List.length_map, List.getElem?_map, e]; rfl, ?_⟩
      rw [← List.map_dropLast]
      exact h.run rfl _ (Ext.dq on) (d1.setQ _) _ (Rep.int z)
  · exact h.elim
theorem x_dealApp (c : Ctx X E W k) {p2 p3 : Pos} (ha : CE X E W .sh e1 m1) (hb : CE X E W .full e2 m2) (hbase : attributeBase e1 "append" X.env (eval e1 X.env) = eval e1 X.env := by rfl)
    (hfew : ((backTo p3 (starEach [e2] X.env)).all (fun x => !x.1) && (backToKw p3 (keywordEach [] X.env)).all (fun x => x.1.isSome)
      && decide (([e2] : List Expr).length + ([] : List Keyword).length + (if ([] : List Keyword).isEmpty then 0 else 1) < 30)) = true := by rfl)
    (hline : (p2.endLine == p3.line) = true := by rfl) (hs : starEach [e2] X.env = (false, eval e2 X.env) :: starEach [] X.env := by rfl) :
    CE X E W lv (.Call (.Attribute e1 "append" p2) [e2] [] p3) (fun ρ => m1 ρ >>= fun a => dealAp1 a >>= fun _ => m2 ρ >>= dealApp) := by
  refine CE.any ?_
  obtain ⟨t, pp, kk⟩ := ha
  obtain ⟨t2, pp2, kk2⟩ := hb
  refine ⟨_, pe_bm PySem.F.plainAttrs_list PySem.F.slot_list_append PySem.F.type_list_append mt_append pp (pa_cons pp2 pa_nil hs) hbase hfew hline hs rfl, fun σ H ρ s M0 A Q R dl h => ?_⟩
  refine kk σ H ρ s M0 A _ R dl (h.bind.mono fun d s1 H1 _ x1 d1 h v r => ?_)
  have R1 := R.ext x1 d1
  have isd : d = .dealL := by
    cases d with
    | dealL => rfl
    | _ => exact h.elim
  subst isd
  obtain ⟨rfl, on⟩ := sh_dealL r
  have h : Fin E W H1 ((m2 ρ >>= dealApp) s1) _ := h
  refine ⟨.inl ⟨rfl, _, SqL.of (d1.q on)⟩, ?_⟩
  refine kk2 σ H1 ρ s1 M0 A _ R1 d1 (h.bind.mono fun d2 s2 H2 _ x2 dd2 h v2 r2 => ?_)
  unfold dealApp at h
  split at h
  · split at h
    · rename_i hz
      obtain rfl := r2.int
      refine ⟨E.q, s2.ds.map V.int, _, rfl, rfl, dd2.q on, by rw [List.length_map]; exact hz, ?_⟩
      have := h.run rfl _ (Ext.dq on) (dd2.setQ _) .non Rep.non
      rw [List.map_append] at this
      exact this
    · exact h.elim
  · exact h.elim
theorem s_dealSet (c : Ctx X E W k) {p1 p2 p4 : Pos} (h : CE X E W .full e m) (h1 : CE X E W .sh (.Name x p1) m1) (hj : CE X E W .sh e2 m2) (ha : ∀ v, assign (.Subscript (.Name x p1) e2 p2) X.env v = (do
      let ov ← holding [v] (eval (.Name x p1) X.env)
      let iv ← holding [v, ov] (eval e2 X.env)
      standAt p2
      holding [v, ov, iv] (setItem ov iv v)
      release [v, ov, iv] []) := by intro _; rfl)
    (hs : swapsWithSole [(.Subscript (.Name x p1) e2 p2)] e p4.line X.env = pure false := by rfl) (hw : swappedStores [(.Subscript (.Name x p1) e2 p2)] e X.env = pure none := by rfl)
    (h2 : (assignEach [(.Subscript (.Name x p1) e2 p2)] X.env).map (·.2) = [assign (.Subscript (.Name x p1) e2 p2) X.env] := by rfl) :
    CS X E W (.Assign [.Subscript (.Name x p1) e2 p2] e p4) (fun ρ => m ρ >>= fun d => m1 ρ >>= fun a => m2 ρ >>= fun b => dealSet a b d >>= fun _ => pure (.nx, ρ)) := by
  obtain ⟨t, p, k⟩ := h
  obtain ⟨t1, pp1, k1⟩ := h1
  obtain ⟨tj, pj, kj⟩ := hj
  refine ⟨_, ps_asg p (pg_sub pp1 pj set_list ha) hs hw h2, fun σ H ρ s M0 A D R dl h => ?_⟩
  refine k σ H ρ s M0 A _ R dl ((h.expr R).mono fun d s1 H1 _ x1 d1 h v r => ?_)
  have R1 := R.ext x1 d1
  refine k1 σ H1 ρ s1 M0 A _ R1 d1 ((h.expr R1).mono fun a s2 H2 _ x2 d2 h va ra => ?_)
  have R2 := R1.ext x2 d2
  refine kj σ H2 ρ s2 M0 A _ R2 d2 ((h.expr R2).mono fun b s3 H3 _ x3 d3 h vb rb => ?_)
  have R3 := R2.ext x3 d3
  have rv := (r.ext R1 x2).ext R2 x3
  have key : ∃ j i, a = .deal ∧ b = .int j ∧ d = .int i ∧ j = 1 ∧ dealSet a b d s3 = .ok () { s3 with mix := i } := by
    unfold dealSet at h ⊢
    match a, b, d, h with
    | .deal, .int j, .int i, h =>
      by_cases hj : j = 1
      · subst hj
        exact ⟨1, i, rfl, rfl, rfl, rfl, rfl⟩
      · simp only [bind_run, if_neg hj] at h
        exact h.elim
    | .deal, .int j, .non, h => exact h.elim
    | .deal, .int j, .bl _, h => exact h.elim
    | .deal, .int j, .str _, h => exact h.elim
    | .deal, .int j, .tup _ _, h => exact h.elim
    | .deal, .int j, .lst _, h => exact h.elim
    | .deal, .int j, .dic _ _, h => exact h.elim
    | .deal, .int j, .ins _ _, h => exact h.elim
    | .deal, .int j, .deal, h => exact h.elim
    | .deal, .int j, .dealL, h => exact h.elim
    | .deal, .int j, .scr _, h => exact h.elim
    | .deal, .non, _, h => exact h.elim
    | .deal, .bl _, _, h => exact h.elim
    | .deal, .str _, _, h => exact h.elim
    | .deal, .tup _ _, _, h => exact h.elim
    | .deal, .lst _, _, h => exact h.elim
    | .deal, .dic _ _, _, h => exact h.elim
    | .deal, .ins _ _, _, h => exact h.elim
    | .deal, .deal, _, h => exact h.elim
    | .deal, .dealL, _, h => exact h.elim
    | .deal, .scr _, _, h => exact h.elim
    | .non, _, _, h => exact h.elim
    | .bl _, _, _, h => exact h.elim
    | .int _, _, _, h => exact h.elim
    | .str _, _, _, h => exact h.elim
    | .tup _ _, _, _, h => exact h.elim
    | .lst _, _, _, h => exact h.elim
    | .dic _ _, _, _, h => exact h.elim
    | .ins _ _, _, _, h => exact h.elim
    | .dealL, _, _, h => exact h.elim
    | .scr _, _, _, h => exact h.elim
  obtain ⟨j, i, rfl, rfl, rfl, rfl, ek⟩ := key
  rw [bind_ok ek] at h
  obtain ⟨rfl, on⟩ := sh_deal ra
  obtain rfl := rb.int
  obtain rfl := RepL.int rv
  refine ⟨E.p, [.ref E.q, .int s3.mix], 1, 1, rfl, rfl, d3.p on, rfl, ?_⟩
  have d4 := d3.setP i
  exact h σ _ A (R3.ext (Ext.dp on) d4) ((Ext.dp on).mono fun _ z => .inl z) Sub.refl d4
end
end PL
end
section
set_option Elab.async false
set_option linter.all false
set_option maxRecDepth 100000
/-! PL18: the script's cut, reversed lists; the law's own end. -/
namespace PL
open PySem PySem.Spec L2
section
variable {X : Cx} {E : Ev} {W : XK} {lv : Lv} {k : Nat} {e e1 e2 : Expr} {x : Str} {pos p p1 p2 p3 : Pos} {m m1 m2 : PEnv → M D}
def asScr : D → Option (List Int)
  | .scr l => some l
  | _ => none
theorem sh_scr {M0 : Addr → Prop} {A : Nat → Option Addr} {H : Hp} {v : V} {l : List Int} (h : RepL E M0 A H .sh v (.scr l)) : ∃ a, v = .ref a ∧ FrL E.K H a (l.map V.int) := by
  rcases h with h | ⟨_, _, _, _, _, _, h, _⟩ | ⟨_, _, _, _, _, _, h, _⟩
  · cases h with
    | scr h => exact ⟨_, rfl, h⟩
  · cases h
  · cases h
theorem rep_ints {Mv : Addr → Prop} {H : Hp} : ∀ l : List Int, RepA E Mv H (l.map V.int) (l.map D.int)
  | [] => .nil
  | i :: l => .cons (.int i) (rep_ints l)
/-- the script, cut -/
theorem f_cutS {lo hi : Option Expr} {ml mh : PEnv → M (Option Int)} (c : Ctx X E W k) (ha : CE X E W .sh e1 m1) (hl : CO X E W lo ml) (hu : CO X E W hi mh) :
    CF X E W (.Subscript e1 (.Slice lo hi none p2) pos) (fun ρ => m1 ρ >>= fun a => ml ρ >>= fun l => mh ρ >>= fun h => lift (asScr a) >>= fun zs => pure (cutL (zs.map D.int) l h)) := by
  obtain ⟨ta, pa, k1⟩ := ha
  obtain ⟨tl, pl, k2⟩ := hl
  obtain ⟨tu, pu, k3⟩ := hu
  refine ⟨_, pe_slice sl_list pa pl pu, fun σ H ρ s M0 A Q R dl h => ?_⟩
  refine k1 σ H ρ s M0 A _ R dl (h.bind.mono fun a s1 H1 _ x1 d1 h v r => ?_)
  have R1 := R.ext x1 d1
  refine k2 σ H1 ρ s1 M0 A _ R1 d1 (h.bind.mono fun l s2 H2 _ x2 d2 h => ?_)
  have R2 := R1.ext x2 d2
  refine k3 σ H2 ρ s2 M0 A _ R2 d2 (h.bind.mono fun u s3 H3 _ x3 d3 h => ?_)
  have ra := (r.ext R1 x2).ext R2 x3
  obtain ⟨zs, e, g⟩ := h.liftB
  cases a with
  | scr z =>
    cases e
    obtain ⟨q, rfl, h1⟩ := sh_scr ra
    rw [c.K] at h1
    refine ⟨q, _, rfl, h1.sq, fun p hp => ?_⟩
    exact g _ (Ext.laid hp) (d3.laid hp) p _ (was_free ((x1.trans x2).trans x3) d3 hp) upd_same (((rep_ints _).cut l u).laidN hp)
  | _ => cases e
/-- xs[::-1] -/
theorem f_rev {j : Nat} (c : Ctx X E W k) (ha : CE X E W .sh e1 m1) :
    CF X E W (.Subscript e1 (.Slice none none (some (.UnaryOp .USub (.Constant (.int 1) j p1) p2)) p3) pos) (fun ρ => m1 ρ >>= fun a => asL a >>= fun l => pure l.reverse) := by
  obtain ⟨ta, pa, k1⟩ := ha
  refine ⟨_, pe_revL pa, fun σ H ρ s M0 A Q R dl h => ?_⟩
  refine k1 σ H ρ s M0 A _ R dl (h.bind.mono fun a s1 H1 _ x1 d1 h v r => ?_)
  obtain ⟨zs, e, g⟩ := h.liftB
  cases a with
  | lst z =>
    cases e
    obtain ⟨q, vs, rfl, h1, r1⟩ := sh_lst r
    refine ⟨q, vs, rfl, SqL.of h1, fun p hp => ?_⟩
    exact g _ (Ext.laid hp) (d1.laid hp) p _ (was_free x1 d1 hp) upd_same (r1.reverse.laidN hp)
  | _ => cases e
end
end PL
end
section
set_option Elab.async false
set_option linter.all false
set_option maxRecDepth 100000
/-! PL19: the law itself: a script comes in, True goes out. -/
namespace PL
open PySem PySem.Spec PyProof.Rows L2
/-- the promise of law -/
def spLaw (K : PySem.W.Frag) (n : Nat) : Sp := fun vs H Q _ => ∃ (a : Addr) (ns : List Int), vs = [.ref a] ∧ FrL K H a (ns.map V.int) ∧ ns.length ≤ n ∧ ∀ H', Q (.bl true) H'
section
variable {P : Program} {w : World} {K : PySem.W.Frag} {mg mb : Str → Option Value} {k n : Nat} {fa a : Addr} {fd : FuncData} {x : Str} {s : Shared} {vs : List Value} {ns : List Int}
/-- from an abstract heap of nothing but the script -/
theorem law_core {H : Hp} (KX : K.In s.heap) (hns : s.heap.Ns mainGlobals mg) (hb : s.heap.Ns builtinsNs mb) (hbb : ∀ x : Str, x ≠ "__name__" → mb x = bootBuiltins x) (hlim : s.heap.NoLimit) (hg : s.gens = #[])
    (ha : s.heap.get? a = some { cls := .type "list", data := .seq vs.toArray }) (hr : Room k callerA) (F : ∀ base : Heap, K.In base → base.Ns mainGlobals mg → GOk P w K mg base k fa fd [x] (spLaw K n))
    (bnd : ∀ (s : Shared) (u : Value), BindsTo s fd ⟨[u], []⟩ [(x, u)]) (hn : ns.length ≤ n) (hS : FrL K H a (ns.map V.int)) (hok : HOk P w H s.heap) (only : ∀ b, H b ≠ none → b = a ∧ K.lookup a = none ∧ ∃ o xs, H b = some (.frz o (.lst xs))) :
    codeAny (model P w) callerA (.call (.ref fa) ⟨[.ref a], []⟩) (fun r s' => r = .ok (.ret (.bool true)) ∧ OldK s.heap s'.heap ∧ s'.os = s.os ∧ AllBare s'.gens) s := by
  have un : ∀ {b : Addr} {o : Obj}, s.heap.get? b = some o → b ≠ a → (hidT s.heap H).get? b = some o := fun {b o} e ne => hidT_get e (by
    cases q : H b with
    | none => rfl
    | some u => exact absurd (only b (by rw [q]; exact fun z => nomatch z)).1 ne)
  have notA : ∀ {b : Addr} {o : Obj} {es : Array DictEntry} {ep : Nat}, s.heap.get? b = some o → o.data = .dict es ep → b ≠ a := fun {b o es ep} e d z => by
    subst z
    rw [ha] at e
    cases e
    exact nomatch (show Data.seq vs.toArray _ = Data.dict es ep from d)
  have nsK : ∀ {b : Addr} {m : Str → Option Value}, s.heap.Ns b m → (hidT s.heap H).Ns b m := fun {b m} z => let ⟨o, es, ep, e, d, r⟩ := z; ⟨o, es, ep, un e (notA e d), d, r⟩
  have hK : K.In (hidT s.heap H) := fun b o e => by
    cases q : H b with
    | none => exact hidT_get (KX b o e) q
    | some u =>
      obtain ⟨e1, e2, _⟩ := only b (by rw [q]; exact fun z => nomatch z)
      subst e1
      rw [e] at e2
      cases e2
  have M : Mod K mg (hidT s.heap H) := ⟨hK, nsK hns, ⟨mb, nsK hb, hbb⟩, by obtain ⟨mc, h1, h2⟩ := hlim; exact ⟨mc, nsK h1, h2⟩⟩
  have e0 : Env0 P w K mg (hidT s.heap H) callerA [] s H :=
    { frames := rfl, mod := M, bs := fun b o e => of_hidT e, bsz := Nat.le_of_eq (hidT_size _ _), funs := trivial, frf := fun b hb => (nomatch hb), hok := hok, bare := .of_eq hg }
  have G := F _ hK (nsK hns)
  refine codeAny_mono (G.go callerA [] s H ⟨[.ref a], []⟩ [.ref a] [.ref a] (fun v _ => v = .bl true) (fun _ _ _ => False) rfl hr e0 (bnd s (.ref a)) (.cons rfl .nil) ⟨a, ns, rfl, hS, hn, fun _ => rfl⟩) ?_
  intro r s' z
  match r, z with
  | .error e, z =>
    obtain ⟨_, _, _, _, _, _, _, _, _, _, _, _, z⟩ := z
    exact z.elim
  | .ok .next, z => exact z.elim
  | .ok .brk, z => exact z.elim
  | .ok .cont, z => exact z.elim
  | .ok (.ret u), z =>
    obtain ⟨v, H', os, bare, u2, hok', r', q⟩ := z
    have q : v = .bl true := q
    subst q
    obtain rfl : u = Value.bool true := r'
    refine ⟨rfl, OldK.of_keep fun b o e => ?_, os, bare⟩
    by_cases q : H b = none
    · exact u2.keep b o e q (fun z => nomatch z) (fun z => nomatch z)
    · obtain ⟨_, _, ob, xs, z⟩ := only b q
      have z2 := u2.frzs b ob _ z
      have e1 := (hok b _ z).1
      have e2 := (hok' b _ z2).1
      rw [e] at e1
      cases e1
      exact e2
theorem law_go (KX : K.In s.heap) (hns : s.heap.Ns mainGlobals mg) (hb : s.heap.Ns builtinsNs mb) (hbb : ∀ x : Str, x ≠ "__name__" → mb x = bootBuiltins x) (hlim : s.heap.NoLimit) (hg : s.gens = #[])
    (ha : s.heap.get? a = some { cls := .type "list", data := .seq vs.toArray }) (hi : IntsAre vs ns) (hn2 : n ≤ sizeLine) (hr : Room k callerA) (F : ∀ base : Heap, K.In base → base.Ns mainGlobals mg → GOk P w K mg base k fa fd [x] (spLaw K n))
    (bnd : ∀ (s : Shared) (u : Value), BindsTo s fd ⟨[u], []⟩ [(x, u)]) (hn : ns.length ≤ n) :
    codeAny (model P w) callerA (.call (.ref fa) ⟨[.ref a], []⟩) (fun r s' => r = .ok (.ret (.bool true)) ∧ OldK s.heap s'.heap ∧ s'.os = s.os ∧ AllBare s'.gens) s := by
  have rv := vals_ints hi
  have lv := hi.length
  by_cases hk : K.lookup a = none
  · refine law_core (H := fun b => if b = a then some (.frz { cls := .type "list", data := .seq vs.toArray } (.lst (ns.map V.int))) else none) KX hns hb hbb hlim hg ha hr F bnd hn (.inl ⟨{ cls := .type "list", data := .seq vs.toArray }, if_pos rfl⟩) ?_ ?_
    · intro b u z
      by_cases e : b = a
      · subst e
        dsimp only at z
        rw [if_pos rfl] at z
        cases z
        exact ⟨ha, by rw [List.length_map]; omega, vs, _, rv, ha⟩
      · have z := (if_neg e).symm.trans z
        cases z
    · intro b z
      by_cases e : b = a
      · exact ⟨e, hk, _, _, if_pos e⟩
      · exact absurd (if_neg e) z
  · obtain ⟨o, ho⟩ := Option.ne_none_iff_exists'.mp hk
    have e := KX a o ho
    rw [ha] at e
    cases e
    refine law_core (H := fun _ => none) KX hns hb hbb hlim hg ha hr F bnd hn (.inr ⟨_, vs.toArray, _, ho, rfl, rfl, rfl, by rw [List.size_toArray]; omega, by simpa using rv⟩) (fun b u z => nomatch z) (fun b z => absurd rfl z)
end
/-- the end over a head by facts -/
theorem walk_law {l : PySem.W.OpenLaw} {n k : Nat} {q : Program} {loose : List Str} {XP : (Str → Option Value) → Heap → Prop} {YP : World → Heap → Prop} {d : DefRec} {x : Str} (hn : l.most = some n) (hn2 : n ≤ sizeLine) (hdf : d.params.defaults = []) (hr : Room k callerA)
    (F : ∀ (w : World) (mg : Str → Option Value) (fa : Addr) (h : Heap), YP w h → h.Ns mainGlobals mg → mg d.name = some (.ref fa) →
      ∃ (K : PySem.W.Frag) (fd : FuncData), K.In h ∧ (∀ (s : Shared) (u : Value), BindsTo s fd ⟨[u], []⟩ [(x, u)]) ∧ ∀ base : Heap, K.In base → base.Ns mainGlobals mg → GOk l.prog w K mg base k fa fd [x] (spLaw K n)) :
    PySem.W.WalkO q loose XP YP l.row.toRowW d [] (fun f vs => PySem.call f vs) := by
  refine Att.attach_call hn hdf fun w s₀ s₁ mg mb fa o pm cd doc a vs ns G Y ho hd hcd hmg hobj hints hlen hg => ?_
  obtain ⟨K, fd, KX, hb, hF⟩ := F w mg fa _ Y G.T.g hmg
  exact law_go KX G.T.g G.T.b G.T.builtins G.T.nolimit hg hobj hints hn2 hr hF hb hlen
/-! ### the law's body: a deal is made, then the rest runs over it -/
/-- what a made deal is -/
def isDeal : D → Option (List Int × Int)
  | .lst [.lst l, .int m] => (l.mapM asIO).map fun ds => (ds, m)
  | _ => none
theorem pss_any {X : Cx} {sts : List Stmt} {ι : Type} {t : ι → TS} (h : ∀ i, PSs X sts (t i)) : PSs X sts (fun D σ H => ∃ i, t i D σ H) :=
  ⟨fun pins s σ H D I ⟨i, q⟩ => (h i).run pins s σ H D I q⟩
theorem ok_law {P : Program} {w : World} {K : PySem.W.Frag} {mg : Str → Option Value} {base : Heap} {C : Str → Addr} {d : He.DefD} {f : Addr} {fd : FuncData} {N : List Str} {x : Str} {k i nn : Nat} {st : Stmt} {rest : List Stmt} {n1 n2 : PEnv → M (Fl × PEnv)} (F : FunD K d.name d.qual d.params d.body d.scope [] [] f fd) (S : FnScope N [x] d.scope)
    (eb : d.body = st :: rest)
    (h1 : ∀ (E : Ev), E.K = K → E.C = C → ∀ (cdv : Value) (A : Around) (stk : List Env) (s : Shared) (H : Hp) (W : XK), Ctx (cxOf (L2.CX P w) P w K mg base N d.qual d.scope f cdv A stk s H W) E W k → CS (cxOf (L2.CX P w) P w K mg base N d.qual d.scope f cdv A stk s H W) E W st n1)
    (h2 : ∀ (E : Ev), E.K = K → E.C = C → ∀ (cdv : Value) (A : Around) (stk : List Env) (s : Shared) (H : Hp) (W : XK), Ctx (cxOf (L2.CX P w) P w K mg base N d.qual d.scope f cdv A stk s H W) E W k →
      PassesOwn (model P w) (A.deeper (PyProof.Rows.envOfC d.qual d.scope s.heap.objs.size f cdv)) (PyProof.Rows.envOfC d.qual d.scope s.heap.objs.size f cdv) (cxOf (L2.CX P w) P w K mg base N d.qual d.scope f cdv A stk s H W).xe →
      CB (cxOf (L2.CX P w) P w K mg base N d.qual d.scope f cdv A stk s H W) E W rest n2)
    (law : ∀ ns : List Int, ns.length ≤ nn → ∃ ρ s v ds m r s', n1 (.im (.scr ns) :: List.replicate (N.length - 1) .un) ⟨[], 0⟩ = .ok (.nx, ρ) s ∧ ρ.length = N.length ∧ ρ[i]? = some (.im v) ∧ isDeal v = some (ds, m) ∧ n2 ((List.replicate N.length .un).set i (.im .deal)) ⟨ds, m⟩ = .ok (.ret (.bl true), r) s') :
    GOk P w K mg base (k + 1) f fd [x] (spLaw K nn) := by
  refine gok_of F S (fun vs H Q W h => ?_) (fun cdv A stk s H vs Q W hg hr h => ?_)
  · obtain ⟨a, ns, rfl, _⟩ := h
    rfl
  · obtain ⟨a, ns, rfl, fr, hl, hQ⟩ := h
    have cc : ∀ E : Ev, E.K = K → E.C = C → Ctx (cxOf (L2.CX P w) P w K mg base N d.qual d.scope f cdv A stk s H W) E W k := fun E hK hC =>
      ⟨hK, hr, S.nd, rfl, passes_call (takes_of rfl rfl rfl rfl) fun _ _ _ _ h => h, hg⟩
    have po := passes_of (X := cxOf (L2.CX P w) P w K mg base N d.qual d.scope f cdv A stk s H W) rfl
    obtain ⟨t1, p1, k1⟩ := h1 ⟨K, C, 0, 0, false⟩ rfl rfl cdv A stk s H W (cc _ rfl rfl)
    have c2 : ∀ pq : Addr × Addr, CB (cxOf (L2.CX P w) P w K mg base N d.qual d.scope f cdv A stk s H W) ⟨K, C, pq.1, pq.2, true⟩ W rest n2 := fun pq => h2 ⟨K, C, pq.1, pq.2, true⟩ rfl rfl cdv A stk s H W (cc _ rfl rfl) po
    rw [eb]
    refine ⟨_, pss_cons p1 (pss_any fun pq => (c2 pq).choose_spec.1), ?_⟩
    obtain ⟨ρ, s1, v, ds, m, r, s', e1, eρ, e2, e3, e4⟩ := law ns hl
    have R0 : ER ⟨K, C, 0, 0, false⟩ (fun _ => False) (fun _ => none) H (L2.start N [.ref a]) (.im (.scr ns) :: List.replicate (N.length - 1) .un) :=
      ER.start (vs := [.ref a]) (ds := [.scr ns]) (N := N) (fun z => nomatch z) (fun z => nomatch z) mokF (.cons (.scr fr) .nil)
    have dl0 : DealAt ⟨K, C, 0, 0, false⟩ H ⟨[], 0⟩ := ⟨fun z => (nomatch z), fun z => (nomatch z)⟩
    refine k1 _ H _ ⟨[], 0⟩ _ _ _ R0 dl0 ?_
    rw [e1]
    intro σ1 H1 A1 R1 x1 u1 d1
    obtain ⟨_, v1, e5, rv⟩ := R1.at_ i _ e2
    have key : ∃ p q, v1 = .ref p ∧ DealAt ⟨K, C, p, q, true⟩ H1 ⟨ds, m⟩ := by
      unfold isDeal at e3
      split at e3
      · rename_i l m'
        rw [Option.map_eq_some_iff] at e3
        obtain ⟨ds', e6, e7⟩ := e3
        cases e7
        cases rv with
        | lst g1 _ ra =>
          cases ra with
          | cons r1 ra =>
            cases ra with
            | cons r2 ra =>
              cases ra
              cases r2
              cases r1 with
              | lst g2 _ rb =>
                rw [ints_of rb e6] at g2
                exact ⟨_, _, rfl, ⟨fun _ => g1, fun _ => g2⟩⟩
      · cases e3
    obtain ⟨p, q, rfl, d2⟩ := key
    refine ⟨(p, q), ?_⟩
    have R2 : ER ⟨K, C, p, q, true⟩ (fun b => b = p ∨ b = q) (fun _ => none) H1 σ1 ((List.replicate N.length .un).set i (.im .deal)) := by
      refine ⟨fun _ => .inl rfl, fun _ => .inr rfl, fun j b z => (nomatch z), fun j l b z => (nomatch z), fun b z => ?_, ?_, fun j y z => ?_⟩
      · rw [own_none] at z
        rcases z with z | z
        · rw [z]; exact ⟨_, d2.p rfl, trivial⟩
        · rw [z]; exact ⟨_, d2.q rfl, trivial⟩
      · rw [List.length_set, List.length_replicate, ← eρ, R1.len]
      · by_cases hj : j = i
        · subst hj
          rw [List.getElem?_set_self' ] at z
          simp only [Option.map_eq_map, Option.map_eq_some_iff] at z
          obtain ⟨_, _, rfl⟩ := z
          exact ⟨rfl, _, e5, .deal rfl⟩
        · rw [List.getElem?_set_ne (Ne.symm hj), List.getElem?_replicate] at z
          split at z
          · cases z
            rfl
          · cases z
    refine (c2 (p, q)).choose_spec.2 σ1 H1 _ ⟨ds, m⟩ _ _ _ R2 d2 ?_
    rw [e4]
    intro v' H2 x2 d3 mo rp
    cases rp
    exact hQ H2
end PL
end
section
set_option Elab.async false
set_option linter.all false
set_option maxRecDepth 100000
/-! PL20: two ways for one expression; short words. -/
namespace PL
open PySem PySem.Spec L2
def orM {α : Type} (m m' : M α) : M α := fun s => match m s with
  | .bad => m' s
  | o => o
theorem orM_bind {α β : Type} (m : M α) (f g : α → M β) : orM (m >>= f) (m >>= g) = (m >>= fun a => orM (f a) (g a)) := by
  funext s
  simp only [orM, bind_run]
  cases m s <;> rfl
@[simp] theorem orM_fail {α : Type} (m : M α) : orM fail m = m := rfl
theorem orM_fail2 {α : Type} (m : M α) : orM m fail = m := by
  funext s
  simp only [orM]
  cases m s <;> rfl
theorem orM_bad {α : Type} {m m' : M α} {s : Dl} (h : m s = .bad) : orM m m' s = m' s := by simp only [orM, h]
theorem orM_go {α : Type} {m m' : M α} {s : Dl} (h : m s ≠ .bad) : orM m m' s = m s := by
  unfold orM
  cases e : m s with
  | bad => exact absurd e h
  | ok a s' => rfl
  | exc c l s' => rfl
section
variable {X : Cx} {E : Ev} {W : XK} {lv : Lv} {k : Nat} {e e1 e2 : Expr} {pos : Pos} {m m' m1 m2 : PEnv → M D}
theorem CE.alt (h : CE X E W lv e m) (h' : CE X E W lv e m') : CE X E W lv e (fun ρ => orM (m ρ) (m' ρ)) := by
  obtain ⟨t, p, k⟩ := h
  obtain ⟨t', p', k'⟩ := h'
  refine ⟨_, PE.or p p', fun σ H ρ s M0 A Q R dl h => ?_⟩
  dsimp only at h
  by_cases e0 : m ρ s = .bad
  · rw [orM_bad e0] at h
    exact .inr (k' σ H ρ s M0 A Q R dl h)
  · rw [orM_go e0] at h
    exact .inl (k σ H ρ s M0 A Q R dl h)
theorem PT.or {t t' : TT} (h : PT X e t) (h' : PT X e t') : PT X e (fun σ H Q => t σ H Q ∨ t' σ H Q) :=
  ⟨fun pins s σ H Q I q => q.elim (fun q => h.run pins s σ H Q I q) fun q => h'.run pins s σ H Q I q⟩
theorem CT.alt {m m' : PEnv → M Bool} (h : CT X E W e m) (h' : CT X E W e m') : CT X E W e (fun ρ => orM (m ρ) (m' ρ)) := by
  obtain ⟨t, p, k⟩ := h
  obtain ⟨t', p', k'⟩ := h'
  refine ⟨_, PT.or p p', fun σ H ρ s M0 A Q R dl h => ?_⟩
  dsimp only at h
  by_cases e0 : m ρ s = .bad
  · rw [orM_bad e0] at h
    exact .inr (k' σ H ρ s M0 A Q R dl h)
  · rw [orM_go e0] at h
    exact .inl (k σ H ρ s M0 A Q R dl h)
def isDicB : D → Bool
  | .dic _ _ => true
  | _ => false
def subAny (a b : D) : M D := if isDicB a then subDic a b else subSeq a b
def inAny (a b : D) : M D := if isDicB b then inDicD a b else inSeqD a b
def ninAny (a b : D) : M D := if isDicB b then ninDicD a b else ninSeqD a b
theorem subAny_eq (a b : D) : orM (subDic a b) (subSeq a b) = subAny a b := by
  unfold subAny
  cases a with
  | dic t l =>
    have e : subSeq (.dic t l) b = fail := rfl
    rw [e, orM_fail2]
    rfl
  | _ => rfl
theorem toPy_dic (t : Bool) (l : List (D × D)) : toPy (.dic t l) = none := by simp only [toPy]
theorem inAny_eq (a b : D) : orM (inDicD a b) (inSeqD a b) = inAny a b := by
  unfold inAny
  cases b with
  | dic t l =>
    have e : inSeqD a (.dic t l) = fail := by
      unfold inSeqD inSeqO
      rw [toPy_dic]
      cases toPy a <;> rfl
    rw [e, orM_fail2]
    rfl
  | _ => rfl
theorem ninAny_eq (a b : D) : orM (ninDicD a b) (ninSeqD a b) = ninAny a b := by
  unfold ninAny
  cases b with
  | dic t l =>
    have e : ninSeqD a (.dic t l) = fail := by
      unfold ninSeqD inSeqO
      rw [toPy_dic]
      cases toPy a <;> rfl
    rw [e, orM_fail2]
    rfl
  | _ => rfl
/-! short words -/
def mk1 (d : D) : PEnv → M D := fun _ => pure d
def mB (f : D → D → M D) (a b : PEnv → M D) : PEnv → M D := fun ρ => a ρ >>= fun x => b ρ >>= fun y => f x y
def mU (f : D → M D) (a : PEnv → M D) : PEnv → M D := fun ρ => a ρ >>= f
def mN : PEnv → M (List D) := fun _ => pure []
def mC (a : PEnv → M D) (n : PEnv → M (List D)) : PEnv → M (List D) := fun ρ => a ρ >>= fun d => n ρ >>= fun l => pure (d :: l)
def mL (f : List D → M D) (n : PEnv → M (List D)) : PEnv → M D := fun ρ => n ρ >>= f
def mT (a : PEnv → M D) : PEnv → M Bool := fun ρ => a ρ >>= asB
def vNot (a : PEnv → M D) : PEnv → M D := fun ρ => (a ρ >>= asB) >>= fun b => pure (.bl (!b))
def vAnd (a b : PEnv → M D) : PEnv → M D := fun ρ => (a ρ >>= asB) >>= fun x => if x then b ρ else pure (.bl false)
def vOr (a b : PEnv → M D) : PEnv → M D := fun ρ => (a ρ >>= asB) >>= fun x => if x then pure (.bl true) else b ρ
def mIf (t : PEnv → M Bool) (a b : PEnv → M D) : PEnv → M D := fun ρ => t ρ >>= fun x => if x then a ρ else b ρ
def mFld (cn f : Str) (a : PEnv → M D) : PEnv → M D := fun ρ => a ρ >>= fun d => lift (fldC cn f d)
def mCut (a : PEnv → M D) (l h : PEnv → M (Option Int)) : PEnv → M D := fun ρ => a ρ >>= fun x => l ρ >>= fun p => h ρ >>= fun q => sliceD x p q
def fCut (a : PEnv → M D) (l h : PEnv → M (Option Int)) : PEnv → M (List D) := fun ρ => a ρ >>= fun x => l ρ >>= fun p => h ρ >>= fun q => asL x >>= fun zs => pure (cutL zs p q)
def fCutS (a : PEnv → M D) (l h : PEnv → M (Option Int)) : PEnv → M (List D) := fun ρ => a ρ >>= fun x => l ρ >>= fun p => h ρ >>= fun q => lift (asScr x) >>= fun zs => pure (cutL (zs.map D.int) p q)
def fRev (a : PEnv → M D) : PEnv → M (List D) := fun ρ => a ρ >>= fun x => asL x >>= fun l => pure l.reverse
def oN : PEnv → M (Option Int) := fun _ => pure none
def oS (a : PEnv → M D) : PEnv → M (Option Int) := fun ρ => a ρ >>= fun d => asI d >>= fun i => pure (some i)
def mF (n : PEnv → M (List D)) : PEnv → M D := fun ρ => n ρ >>= fun l => pure (.lst l)
def fL (n : PEnv → M (List D)) : PEnv → M (List D) := fun ρ => n ρ >>= mkLst
def fRg (a : PEnv → M D) : PEnv → M (List D) := fun ρ => a ρ >>= fun d => lift (lrgO d)
def fA (f : D → M (List D)) (a : PEnv → M D) : PEnv → M (List D) := fun ρ => (mC a mN) ρ >>= arg1F f
def dNew : PEnv → M (List (D × D)) := fun _ => pure []
def dDict (a : PEnv → M D) : PEnv → M (List (D × D)) := fun ρ => a ρ >>= fun d => lift (dictO d)
def mD (t : Bool) (n : PEnv → M (List (D × D))) : PEnv → M D := fun ρ => n ρ >>= fun l => pure (.dic t l)
def mDealApp (a b : PEnv → M D) : PEnv → M D := fun ρ => a ρ >>= fun x => dealAp1 x >>= fun _ => b ρ >>= dealApp
def mIdx (a b : PEnv → M D) : PEnv → M D := fun ρ => a ρ >>= fun x => lift (idxAble x) >>= fun _ => b ρ >>= fun y => lift (idxO x y)
def mGet (a b z : PEnv → M D) : PEnv → M D := fun ρ => a ρ >>= fun x => lift (isDicO x) >>= fun _ => b ρ >>= fun y => z ρ >>= fun w => getDic x y w
def mKw (np nk : Nat) (pm : List Nat) (F : List D → M D) (n : PEnv → M (List D)) : PEnv → M D := fun ρ => n ρ >>= fun l => lift (if l.length = nk then some () else none) >>= fun _ => callM np F (gP pm l)
def aAnd (a b : PEnv → M Bool) : PEnv → M Bool := fun ρ => a ρ >>= fun x => if x then b ρ else pure false
def aOr (a b : PEnv → M Bool) : PEnv → M Bool := fun ρ => a ρ >>= fun x => if x then pure true else b ρ
def aNot (a : PEnv → M Bool) : PEnv → M Bool := fun ρ => a ρ >>= fun x => pure (!x)
def aTrue : PEnv → M Bool := fun _ => pure true
def iR1 (a : PEnv → M D) : PEnv → M (List D) := fun ρ => a ρ >>= fun d => lift (rng1O d)
def iR2 (a b : PEnv → M D) : PEnv → M (List D) := fun ρ => a ρ >>= fun d => b ρ >>= fun z => lift (rng2O d z)
def iEn (a : PEnv → M D) : PEnv → M (List D) := fun ρ => a ρ >>= fun d => lift (enumO d)
def iZp (a b : PEnv → M D) : PEnv → M (List D) := fun ρ => a ρ >>= fun d => b ρ >>= fun z => lift (zipO d z)
def iSq (a : PEnv → M D) : PEnv → M (List D) := fun ρ => a ρ >>= fun d => lift (asSeqO d)
def vD (t : Bool) (n : PEnv → M (List (D × D))) : PEnv → M Slot := fun ρ => n ρ >>= fun l => pure (.md t l)
def vF (n : PEnv → M (List D)) : PEnv → M Slot := fun ρ => n ρ >>= fun l => pure (.mu l)
def vE (a : PEnv → M D) : PEnv → M Slot := fun ρ => a ρ >>= fun d => pure (.im d)
def vN : PEnv → M (List Slot) := fun _ => pure []
def vC (a : PEnv → M Slot) (n : PEnv → M (List Slot)) : PEnv → M (List Slot) := fun ρ => a ρ >>= fun y => n ρ >>= fun l => pure (y :: l)
def sV (i : Nat) (n : PEnv → M Slot) : PEnv → M (Fl × PEnv) := fun ρ => n ρ >>= fun y => pure (.nx, ρ.set i y)
def sC (i : Nat) (n : PEnv → M (List D)) : PEnv → M (Fl × PEnv) := fun ρ => n ρ >>= fun l => pure (.nx, ρ.set i (.im (.lst l)))
def sCM (i : Nat) (n : PEnv → M (List D)) : PEnv → M (Fl × PEnv) := fun ρ => n ρ >>= fun l => pure (.nx, ρ.set i (.mu l))
def sSX (i : Nat) (n : PEnv → M (D × PEnv)) : PEnv → M (Fl × PEnv) := fun ρ => n ρ >>= fun r => pure (.nx, r.2.set i (.im r.1))
def sAX (g : D → PEnv → Option PEnv) (n : PEnv → M (D × PEnv)) : PEnv → M (Fl × PEnv) := fun ρ => n ρ >>= fun r => lift (g r.1 r.2) >>= fun ρ' => pure (.nx, ρ')
def sEX (n : PEnv → M (D × PEnv)) : PEnv → M (Fl × PEnv) := fun ρ => n ρ >>= fun r => pure (.nx, r.2)
def sP2 (i j : Nat) (a b : PEnv → M Slot) : PEnv → M (Fl × PEnv) := fun ρ => a ρ >>= fun d => b ρ >>= fun e => pure (.nx, (ρ.set i d).set j e)
def sP3 (i j l : Nat) (n : PEnv → M (List Slot)) : PEnv → M (Fl × PEnv) := fun ρ => n ρ >>= fun ys => lift (if ys.length = 3 then some () else none) >>= fun _ => pure (.nx, setAll ρ ([i, j, l].zip ys))
def sPT (is : List Nat) (n : PEnv → M (List Slot)) : PEnv → M (Fl × PEnv) := fun ρ => n ρ >>= fun ys => lift (if ys.length = is.length ∧ ys.length ≤ sizeLine then some () else none) >>= fun _ => pure (.nx, setAll ρ (is.zip ys))
def sA (g : D → PEnv → Option PEnv) (m : PEnv → M D) : PEnv → M (Fl × PEnv) := fun ρ => m ρ >>= fun d => lift (g d ρ) >>= fun ρ' => pure (.nx, ρ')
def sDS (a b d : PEnv → M D) : PEnv → M (Fl × PEnv) := fun ρ => a ρ >>= fun x => b ρ >>= fun y => d ρ >>= fun z => dealSet y z x >>= fun _ => pure (.nx, ρ)
def sE (m : PEnv → M D) : PEnv → M (Fl × PEnv) := fun ρ => m ρ >>= fun _ => pure (.nx, ρ)
def sR (m : PEnv → M D) : PEnv → M (Fl × PEnv) := fun ρ => m ρ >>= fun d => pure (.ret d, ρ)
def sRN : PEnv → M (Fl × PEnv) := fun ρ => pure (.ret .non, ρ)
def sIf (t : PEnv → M Bool) (a b : PEnv → M (Fl × PEnv)) : PEnv → M (Fl × PEnv) := fun ρ => t ρ >>= fun x => if x then a ρ else b ρ
def sFor (n : PEnv → M (List D)) (g : D → PEnv → Option PEnv) (mb : PEnv → M (Fl × PEnv)) : PEnv → M (Fl × PEnv) := fun ρ => n ρ >>= fun ds => loopM g mb ds ρ
def sWh (k : Nat) (t : PEnv → M Bool) (mb : PEnv → M (Fl × PEnv)) : PEnv → M (Fl × PEnv) := fun ρ => whileM t mb k ρ
def sNil : PEnv → M (Fl × PEnv) := fun ρ => pure (.nx, ρ)
def sPass : PEnv → M (Fl × PEnv) := fun ρ => pure (.nx, ρ)
def sBrk : PEnv → M (Fl × PEnv) := fun ρ => pure (.brk, ρ)
def sCt : PEnv → M (Fl × PEnv) := fun ρ => pure (.ct, ρ)
def sNv : PEnv → M (Fl × PEnv) := fun _ => fail
def sFz (i : Nat) (n : PEnv → M (Fl × PEnv)) : PEnv → M (Fl × PEnv) := fun ρ => n (frz i ρ)
/-- a constant of the module, by its name -/
def Con (K : PySem.W.Frag) (mg : Str → Option Value) (x : Str) (d : D) : Prop := ∃ v u, mg x = some u ∧ RelV v u ∧ ∀ (E : Ev), E.K = K → ∀ Mv H, Rep E Mv H v d
theorem c_con {x : Str} {d : D} (c : Ctx X E W k) (T : Con X.K X.mg x d) (hg : Gl X x := by rfl) (hd : (x == ("__debug__" : Str)) = false := by decide) : CE X E W lv (.Name x pos) (mk1 d) := by
  obtain ⟨v, u, hm, r, rep⟩ := T
  exact c_glob hm r (rep E c.K) hg hd
theorem x_any (c : Ctx X E W k) (ha : CE X E W .sh e1 m1) (hb : CE X E W .sh e2 m2) (hs : PlainIx e2 := by exact fun _ _ => rfl) (hs2 : NoSl e2 := by exact fun _ _ => rfl) : CE X E W lv (.Subscript e1 e2 pos) (mB subAny m1 m2) := by
  have h := CE.alt (x_dic (lv := lv) (pos := pos) c ha hb hs2) (x_seq (lv := lv) (pos := pos) c ha hb hs)
  have e : (fun ρ => orM (m1 ρ >>= fun a => m2 ρ >>= fun b => subDic a b) (m1 ρ >>= fun a => m2 ρ >>= fun b => subSeq a b)) = mB subAny m1 m2 := by
    funext ρ
    simp only [orM_bind, subAny_eq, mB]
  rw [e] at h
  exact h
theorem t_inA (c : Ctx X E W k) (ha : CE X E W .sh e1 m1) (hb : CE X E W .sh e2 m2) (hm : behindInMarks .In e2 = false := by rfl) : CT X E W (.Compare e1 [.In] [e2] pos) (mT (mB inAny m1 m2)) := by
  have h := CT.alt (t_inD (pos := pos) c ha hb hm) (t_in (pos := pos) c ha hb hm)
  have e : (fun ρ => orM ((m1 ρ >>= fun a => m2 ρ >>= fun b => inDicD a b) >>= asB) ((m1 ρ >>= fun a => m2 ρ >>= fun b => inSeqD a b) >>= asB)) = mT (mB inAny m1 m2) := by
    funext ρ
    simp only [bind_assoc', orM_bind, mB, mT]
    congr 1; funext a; congr 1; funext b
    rw [← inAny_eq]
    cases b with
    | dic t l =>
      have e : inSeqD a (.dic t l) = fail := by
        unfold inSeqD inSeqO
        rw [toPy_dic]
        cases toPy a <;> rfl
      rw [e, fail_bind, orM_fail2, orM_fail2]
    | _ => rfl
  rw [e] at h
  exact h
theorem t_ninA (c : Ctx X E W k) (ha : CE X E W .sh e1 m1) (hb : CE X E W .sh e2 m2) (hm : behindInMarks .NotIn e2 = false := by rfl) : CT X E W (.Compare e1 [.NotIn] [e2] pos) (mT (mB ninAny m1 m2)) := by
  have h := CT.alt (t_ninD (pos := pos) c ha hb hm) (t_nin (pos := pos) c ha hb hm)
  have e : (fun ρ => orM ((m1 ρ >>= fun a => m2 ρ >>= fun b => ninDicD a b) >>= asB) ((m1 ρ >>= fun a => m2 ρ >>= fun b => ninSeqD a b) >>= asB)) = mT (mB ninAny m1 m2) := by
    funext ρ
    simp only [bind_assoc', orM_bind, mB, mT]
    congr 1; funext a; congr 1; funext b
    rw [← ninAny_eq]
    cases b with
    | dic t l =>
      have e : ninSeqD a (.dic t l) = fail := by
        unfold ninSeqD inSeqO
        rw [toPy_dic]
        cases toPy a <;> rfl
      rw [e, fail_bind, orM_fail2, orM_fail2]
    | _ => rfl
  rw [e] at h
  exact h
/-- a dict just made, as a value -/
theorem CD.ce {t : Bool} {n : PEnv → M (List (D × D))} (h : CD X E W e t n) : CE X E W lv e (fun ρ => n ρ >>= fun l => pure (.dic t l)) := by
  refine CE.any ?_
  obtain ⟨u, p, kk⟩ := h
  refine ⟨u, p, fun σ H ρ s M0 A Q R dl h => ?_⟩
  refine kk σ H ρ s M0 A _ R dl (h.bind.mono fun l s1 H1 _ x1 d1 h a h0 da => ?_)
  have nA : ¬ Own M0 A a := not_own R.mok h0
  refine h.ok d1 _ ?_
  cases da with
  | k h1 h2 h3 => exact .dk h1 nA h2 (h3.mono fun b z => .inl z)
  | t h1 h2 h3 => exact .dt h1 nA h2 (h3.mono fun b z => .inl z)
end
theorem len1 {α : Type} {us : List α} (h : us.length = 1) : ∃ a0, us = [a0] := by
  match us, h with
  | [a0], _ => exact ⟨a0, rfl⟩
theorem len2 {α : Type} {us : List α} (h : us.length = 2) : ∃ a0 a1, us = [a0, a1] := by
  match us, h with
  | [a0, a1], _ => exact ⟨a0, a1, rfl⟩
theorem len3 {α : Type} {us : List α} (h : us.length = 3) : ∃ a0 a1 a2, us = [a0, a1, a2] := by
  match us, h with
  | [a0, a1, a2], _ => exact ⟨a0, a1, a2, rfl⟩
theorem len4 {α : Type} {us : List α} (h : us.length = 4) : ∃ a0 a1 a2 a3, us = [a0, a1, a2, a3] := by
  match us, h with
  | [a0, a1, a2, a3], _ => exact ⟨a0, a1, a2, a3, rfl⟩
theorem len5 {α : Type} {us : List α} (h : us.length = 5) : ∃ a0 a1 a2 a3 a4, us = [a0, a1, a2, a3, a4] := by
  match us, h with
  | [a0, a1, a2, a3, a4], _ => exact ⟨a0, a1, a2, a3, a4, rfl⟩
theorem len6 {α : Type} {us : List α} (h : us.length = 6) : ∃ a0 a1 a2 a3 a4 a5, us = [a0, a1, a2, a3, a4, a5] := by
  match us, h with
  | [a0, a1, a2, a3, a4, a5], _ => exact ⟨a0, a1, a2, a3, a4, a5, rfl⟩
theorem len7 {α : Type} {us : List α} (h : us.length = 7) : ∃ a0 a1 a2 a3 a4 a5 a6, us = [a0, a1, a2, a3, a4, a5, a6] := by
  match us, h with
  | [a0, a1, a2, a3, a4, a5, a6], _ => exact ⟨a0, a1, a2, a3, a4, a5, a6, rfl⟩
end PL
end
section
set_option Elab.async false
set_option linter.all false
set_option maxRecDepth 100000
/-! PL21: the module's own constants, its records. -/
namespace PL
open PySem PySem.Spec PyProof.Rows L2
/-- the module's name x is a tuple of these -/
def tupIn (K : PySem.W.Frag) (x : Str) (vs : List V) : Bool := match PySem.W.nsIn K mainGlobals x with
  | some (some (.ref a)) => (match K.lookup a with
    | some ⟨.type c, none, .seq its _, _⟩ => decide (c = "tuple") && (decide (its.size ≤ sizeLine) && He.relAll vs its.toList)
    | _ => false)
  | _ => false
theorem tupIn_ok {K : PySem.W.Frag} {h : Heap} {mg : Str → Option Value} {x : Str} (X : K.In h) (G : h.Ns mainGlobals mg) {ns : List Int} (c : tupIn K x (ns.map V.int) = true) : Con K mg x (.tup true (ns.map D.int)) := by
  unfold tupIn at c
  split at c
  · rename_i a e
    split at c
    · rename_i cc its n sl e2
      simp only [Bool.and_eq_true, decide_eq_true_eq] at c
      obtain ⟨c1, c2, c3⟩ := c
      subst c1
      refine ⟨.ref a, .ref a, PySem.W.mg_of X G e, rfl, fun E hE Mv H => ?_⟩
      subst hE
      exact .tupK (.inl ⟨_, its, n, e2, rfl, rfl, rfl, c2, He.relAll_ok c3⟩) (rep_ints ns)
    · cases c
  · cases c
end PL
end
section
set_option Elab.async false
set_option linter.all false
set_option maxRecDepth 100000
/-! PL22: sorted({.. for .. in d}), d a dict with tuple keys, the members pairs of ints. -/
namespace PL
open PySem PySem.Spec PyProof.Rows L2

section
variable {X : Cx} {pins : List (Addr × Obj)} {σ : L2.St} {H : Hp} {s : Shared} {D : Addr} {L : List (Addr × List Int)}
theorem tset_get (I : Inv X pins σ H s) (hD : H D = some (SetTO X.prog X.w D L)) (hk : ∀ p ∈ L, SqT X.K H p.1 (p.2.map V.int)) : ∃ es ep t, SetTR X.prog X.w s.heap D L es ep t :=
  SetT0.full (I.hok D _ hD).1 fun p hp => I.isT (hk p hp)
theorem tset_add {E : Value → Shared → Prop} {Q : Value → Shared → Prop} {c : Addr} {k : List Int} (I : Inv X pins σ H s) (hD : H D = some (SetTO X.prog X.w D L)) (hk : ∀ p ∈ L, SqT X.K H p.1 (p.2.map V.int))
    (hc : SqT X.K H c (k.map V.int)) (few : L.length + 1 < 64) (hu : X.A.units + 65 < cLine)
    (h : ∀ s' L', (k ∈ L.map (·.2) → L' = L) → (k ∉ L.map (·.2) → L'.Perm ((c, k) :: L)) → Inv X pins σ (upd H D (SetTO X.prog X.w D L')) s' → Q .none s') :
    wpAny (model X.prog X.w) X.A (call (.builtin "set.add") [.ref D, .ref c]) Q E s := by
  obtain ⟨es, ep, t, R⟩ := tset_get I hD hk
  have hx : IsT X.prog X.w s.heap k c := I.isT hc
  have hu1 : X.A.in1.units < cLine := show X.A.units + 1 < cLine by omega
  have hT : s.TypeIs (.ref D) "set" := by
    obtain ⟨o, ho, hex, _⟩ := R.ob
    exact ⟨o, ho, hex.1⟩
  refine wpAny_call_entry F.slot_set_add hT F.entry_set_add ?_ (F.args_set_add_2 _ _)
  unfold Builtin.«set.add» Builtin.Frozenset.oneOther
  simp only [List.isEmpty_nil, bind_assoc]
  unfold Builtin.Frozenset.addrOf setAdd
  refine wpAny_bind (wpAny_pure ?_)
  try dsimp only
  refine wpAny_bind (wpAny_pure ?_)
  try dsimp only
  refine wpAny_bind ?_
  refine wpAny_holding ?_
  refine wpAny_bind (wpAny_pyHash_tuple hu1 hx ?_)
  refine add_at (s := { s with toks := s.toks + (k.length + 1) }) R hx hu1 few fun b h' L' es' ep' t' sb R' c1 c2 => ?_
  show wpAny _ _ (ret Value.none) _ _ _
  refine wpAny_pure ⟨_, rfl, h _ L' c1 c2 ?_⟩
  have he : ∃ u, h'.get? D = some u := by
    obtain ⟨o, ho, _⟩ := R'.ob
    exact ⟨o, ho⟩
  exact I.write (e := D) (t' := s.toks + (k.length + 1)) (by rw [hD]; trivial) (.inl rfl) (fun b u hb hu => (sb.2 b hb).trans hu) he (setTO_new R'.t0)

/-- d evaluated, locked while the members are made -/
def tSetT (X : Cx) (td : TE) (g : TG) (te : TE) (vs : List Nat) : TE := fun σ H Q => td σ H fun x H1 => ∃ d kvs, x = .ref d ∧ H1 d = some (.dT kvs) ∧
  ∀ od D, H1 D = none → ∃ W : Nat → Hp → Prop, W 0 (upd (upd H1 d (.frz od (.dT kvs))) D (SetTO X.prog X.w D [])) ∧ ∀ i H', W i H' → H' d = some (.frz od (.dT kvs)) ∧
    (kvs.length ≤ i → Q (.ref D) (upd H' d (.dT kvs))) ∧
    ∀ k v q, kvs[i]? = some (k, v) → H' q = some (.tup (k.map kV)) → g (.ref q) (wipe σ vs) H' fun σ2 H2 => wipe σ2 vs = wipe σ vs ∧ te σ2 H2 fun y H3 => ∃ c n L, y = .ref c ∧ SqT X.K H3 c (n.map V.int) ∧
      H3 D = some (SetTO X.prog X.w D L) ∧ (∀ p ∈ L, SqT X.K H3 p.1 (p.2.map V.int)) ∧ L.length + 1 < 64 ∧ ∀ L', (n ∈ L.map (·.2) → L' = L) → (n ∉ L.map (·.2) → L'.Perm ((c, n) :: L)) → W (i + 1) (upd H3 D (SetTO X.prog X.w D L'))

theorem pe_setT {elt tg iter : Expr} {scope : Scope} {own : List (PySem.Str × Nat)} {pos : Pos} {td : TE} {g : TG} {te : TE} (calm : X.calm = true) (nd : X.N.Nodup) (hu : X.A.units + 65 < cLine) (hi : PE X iter td) (ok : BlkOk X.N X.env.scope scope own)
    (hg : ∀ (s : Shared) (H : Hp) (C : Addr) (cl : List (PySem.Str × Addr)) (fp : List Addr), PG (X.blk s H scope (compEnvC scope cl C X.env) fp) tg g)
    (he : ∀ (s : Shared) (H : Hp) (C : Addr) (cl : List (PySem.Str × Addr)) (fp : List Addr), PE (X.blk s H scope (compEnvC scope cl C X.env) fp) elt te) (hs : ∀ x, foldedSetIterable iter X.env x = pure x := by intro _; rfl) :
    PE X (.SetComp elt [⟨tg, iter, [], 0⟩] scope pos) (tSetT X td g te (own.map (·.2))) := by
  refine ⟨fun pins s σ H Q I h => ?_⟩
  rw [PpSet.eval_SetComp]
  have free : ∀ y ∈ scope.names, y.2 = .free → ∃ c, X.env.cells.lookup y.1 = some c := fun y hy e => (ok.free y hy e).elim (fun k => I.ok.has _ (.inl k)) fun k => I.ok.has _ (.inr k)
  refine wpAny_comprehension_free rfl hs (closure_ok free) ok.kind (fun y hy e => by rw [ok.uniq y hy, e]) (thn (hi.run pins s σ H _ I h) fun xv s1 hx => ?_)
  obtain ⟨x, H1, I1, rx, d, kvs, ex, hd, hD⟩ := hx
  subst ex
  obtain rfl : xv = Value.ref d := rx
  obtain ⟨od, Ik⟩ := I1.lock hd trivial
  have nofrz := I1.nofrz hd trivial
  obtain ⟨hsd, hgd, hxd, es, ep, hdt, hsz, ent⟩ := Ik.frzT (upd_same)
  -- the iterator
  have tIter : wpAny (model X.prog X.w) X.A (pyIter (.ref d)) (PIE X pins σ tg (fun J H' => J = Itkt d od kvs ∧ H' = upd H1 d (.frz od (.dT kvs)))) X.xe s1 :=
    iter_keys hsd hgd hxd hdt (pi_one (tk := s1.toks) Ik _ (turn_keysT _ hdt) ⟨_, Heap.get?_push_size _ rfl, rfl, by rw [hsz] <;> rfl⟩ ⟨rfl, rfl⟩)
  refine thn tIter fun itv s2 h2 => ?_
  obtain ⟨it, fp, tn, J, H2, e, I2, T, st2, f2, eJ, eH⟩ := h2
  subst e
  subst eJ
  subst eH
  refine PpSet.newSet_ok (newEnv_comp ?_)
  have nN : (upd H1 d (.frz od (.dT kvs))) s2.heap.objs.size = none := I2.hok.fresh (Nat.le_refl _)
  have nD1 : H1 s2.heap.objs.size = none := by
    by_cases z : s2.heap.objs.size = d
    · rw [z, upd_same] at nN; cases nN
    · rw [upd_ne z] at nN; exact nN
  obtain ⟨W, w0, turn⟩ := hD od s2.heap.objs.size nD1
  generalize eD : s2.heap.objs.size = D at nN nD1 w0 turn ⊢
  generalize ek : upd H1 d (.frz od (.dT kvs)) = Hk at I2 nN w0 f2 Ik
  generalize e3 : ({ s2 with heap := s2.heap.push { cls := .type "set", dict := none, data := .set #[] 0 (.fresh 0 0 (!X.w.params.followText "set-order")) } } : Shared) = s3
  have I3 : Inv X pins σ (upd Hk D (SetTO X.prog X.w D [])) s3 := by
    subst e3
    refine I2.laid (t' := s2.toks) (fun b o e => Heap.get?_push_of_some _ e) (Nat.le_of_eq eD) ?_
    rw [← eD]
    exact setTO_new (setTR_fresh (Heap.get?_push_size _ rfl)).t0
  have k23 : ∀ b o, s2.heap.get? b = some o → s3.heap.get? b = some o := fun b o e => by subst e3; exact Heap.get?_push_of_some _ e
  have z3 : s2.heap.objs.size < s3.heap.objs.size := by subst e3; show _ < (Heap.push _ _).objs.size; rw [Heap.size_push]; exact Nat.lt_succ_self _
  have f3 : ∀ b ∈ fp, FpOk X pins (upd Hk D (SetTO X.prog X.w D [])) b ∧ b < s3.heap.objs.size := fun b hb => by
    obtain ⟨o, e, _⟩ := T.obj _ _ st2 b hb
    have lt := Heap.lt_size e
    exact ⟨⟨(upd_ne (by rw [← eD]; exact Nat.ne_of_lt lt)).trans (f2 b hb).1, (f2 b hb).2⟩, Nat.lt_trans lt z3⟩
  have st3 : tn 0 s3.heap := T.keep _ _ _ st2 fun b _ => k23 b
  have I4 := block_start I3 ok nd f3
  generalize e5 : upd Hk D (SetTO X.prog X.w D []) = H3 at I3 I4 w0 f3
  have pg := hg s3 H3 s3.heap.objs.size (cellsFrom (s3.heap.objs.size + 1) scope.names (cloFrom X.env.cells scope.names [])) fp
  have pe := he s3 H3 s3.heap.objs.size (cellsFrom (s3.heap.objs.size + 1) scope.names (cloFrom X.env.cells scope.names [])) fp
  show codeAny _ _ (.compStart (.SetComp elt [⟨tg, iter, [], 0⟩] scope pos) 0 (.ref it) (.ref D) (compEnvC scope (cellsFrom (s3.heap.objs.size + 1) scope.names (cloFrom X.env.cells scope.names [])) s3.heap.objs.size X.env)) _
    { s3 with heap := pushCells (s3.heap.push { cls := .type "dict", data := .dict #[] }) scope.names }
  generalize ec : compEnvC scope (cellsFrom (s3.heap.objs.size + 1) scope.names (cloFrom X.env.cells scope.names [])) s3.heap.objs.size X.env = ce at I4 pg pe ⊢
  have cL : ce.locals = s3.heap.objs.size := by subst ec; rfl
  generalize e4 : ({ s3 with heap := pushCells (s3.heap.push { cls := .type "dict", data := .dict #[] }) scope.names } : Shared) = s4 at I4 ⊢
  have st4 : tn 0 s4.heap := T.keep _ _ _ st3 fun b _ o e => by subst e4; exact pushCells_keeps _ _ _ _ (Heap.get?_push_of_some _ e)
  have stat : ∀ {σ' : L2.St} {H' : Hp} {s' : Shared}, Inv (X.blk s3 H3 scope ce fp) [] σ' H' s' → (∀ b ∈ fp, H' b = none) → ∀ b ∈ fp, FpOk (X.blk s3 H3 scope ce fp) [] H' b := fun {σ' H' s'} I' hn b hb =>
    ⟨hn b hb, (I'.ok.exf b hb).1, I'.ok.exfs b hb, .inl hb, fun x c e => (I'.ok.exf b hb).2 x c e, fun p hp => absurd (show p ∈ ([] : List (Addr × Obj)) ++ [] from hp) (by simp)⟩
  refine PpSet.codeAny_compStart_set ?lp (T.self X.A 0 _ _ _ st4 ?lp)
  refine PpSet.compLoopS_any (fun n s' => ∃ i H', n = kvs.length - i ∧ Inv (X.blk s3 H3 scope ce fp) [] (wipe σ (own.map (·.2))) H' s' ∧ tn i s'.heap ∧ (∀ b ∈ fp, H' b = none) ∧ W i H') ?_ kvs.length ⟨0, H3, rfl, I4, st4, fun b hb => (f3 b hb).1.1, w0⟩
  rintro n s5 ⟨i, H5, en, I5, st5, n5, w5⟩
  obtain ⟨fz, fin, step⟩ := turn i H5 w5
  by_cases hl : kvs.length ≤ i
  · have td := T.done (X.blk s3 H3 scope ce fp) rfl rfl rfl calm i [] s5 _ H5 (fun _ _ => False) I5 (stat I5 n5) st5 ⟨fz, hl⟩
    refine thnF td fun r s6 ⟨hr, I6⟩ => ?_
    subst hr
    have I7 : Inv X pins σ H5 s6 := I3.call' (ch := fp) I6.os I6.base I6.hok I6.bare fun b hb => ⟨(f3 b hb).1.2.2.2.1, (f3 b hb).1.2.1, (f3 b hb).1.2.2.2.2.1, (f3 b hb).1.2.2.2.2.2⟩
    have z5 : H5 s3.heap.objs.size = none := by have z := I6.free; rw [show (X.blk s3 H3 scope ce fp).env.locals = s3.heap.objs.size from cL] at z; exact z
    obtain ⟨m, hm, _⟩ := I6.loc
    rw [show (X.blk s3 H3 scope ce fp).env.locals = s3.heap.objs.size from cL] at hm
    obtain ⟨f0, f1, f2', f3', f4, f5⟩ := I3.fpOk (Nat.le_refl _) z5
    refine ⟨m, hm, fun h'' sb => ?_⟩
    exact ⟨.ref D, _, (I7.turned (t' := s6.toks) (fun b o hb e => (sb.2 b hb).trans e) f0 f1 f3' f4 f5).unlock fz nofrz, rfl, fin hl⟩
  · have hl : i < kvs.length := Nat.lt_of_not_le hl
    have ti := T.item (X.blk s3 H3 scope ce fp) rfl rfl rfl calm i [] s5 _ H5 (fun _ _ => False) I5 (stat I5 n5) st5 ⟨fz, hl⟩
    refine thnF ti fun r s6 ⟨u, hr, h6⟩ => ?_
    subst hr
    refine thnF h6 fun _ s7 ⟨x, H7, I7, r7, y7, st7, n7⟩ => ?_
    obtain ⟨eH, kk, vv, q, ekv, ex, hq⟩ := y7
    subst eH
    subst ex
    have I7' := I7.pinned (stat I7 n7) (T.obj _ _ st7)
    refine thnF (pg.run _ s7 _ _ (.ref q) u _ I7' r7 (step kk vv q ekv hq)) fun _ s8 ⟨σ8, H8, I8, hw8, q8⟩ => ?_
    refine thnF ((pts_nil (X := X.blk s3 H3 scope ce fp)).run _ s8 σ8 H8 (fun b H' => b = true ∧ H' = H8) I8 ⟨rfl, rfl⟩) fun b s9 ⟨H9, I9, eb, e9⟩ => ?_
    subst eb
    subst e9
    simp only [if_true]
    refine thnF (pe.run _ s9 σ8 _ _ I9 q8) fun z s10 ⟨yv, H10, I10, r10, c, ns, L, ey, hc, hD10, hk, few, nx⟩ => ?_
    subst ey
    obtain rfl : z = Value.ref c := r10
    refine tset_add (X := X.blk s3 H3 scope ce fp) I10 hD10 hk hc few hu fun s11 L' c1 c2 I11 => ?_
    have pin' : ∀ b ∈ fp, ∀ o, s7.heap.get? b = some o → s11.heap.get? b = some o ∧ (upd H10 D (SetTO X.prog X.w D L')) b = none := fun b hb o e =>
      have z := I11.pin (b, o) (List.mem_append_right _ (List.mem_append_right _ (mem_pinsAt hb e)))
      ⟨z.1, z.2.1⟩
    refine ⟨n - 1, by omega, i + 1, _, by omega, (I11.unpinned (pins := [])).weak (by rw [← hw8, wipe_length]) (fun j v e => ?_), T.keep _ _ _ st7 fun b hb o e => (pin' b hb o e).1, fun b hb => ?_, nx L' c1 c2⟩
    · rw [← hw8] at e
      exact (wipe_some e).1
    · obtain ⟨o, e, _⟩ := T.obj _ _ st7 b hb
      exact (pin' b hb o e).2
end
end PL
end
section
set_option Elab.async false
set_option linter.all false
set_option maxRecDepth 100000
/-! PL23: sorted({.. for .. in d}) over plain data; `in` as a value. -/
namespace PL
open PySem PySem.Spec PyProof.Rows L2

/-- the members, pairs of small ints -/
def pairOf : D → Option (Int × Int)
  | .tup false [.int a, .int b] => if 0 ≤ a ∧ a < 64 ∧ 0 ≤ b ∧ b < 64 then some (a, b) else none
  | _ => none
def pairD (p : Int × Int) : D := .tup false [.int p.1, .int p.2]
def codeP (p : Int × Int) : Int := p.1 * 64 + p.2
def insU (p : Int × Int) : List (Int × Int) → List (Int × Int)
  | [] => [p]
  | q :: l => if codeP p < codeP q then p :: q :: l else if codeP p = codeP q then q :: l else q :: insU p l
def sortU (ps : List (Int × Int)) : List (Int × Int) := ps.foldr insU []
def Small (p : Int × Int) : Prop := 0 ≤ p.1 ∧ p.1 < 64 ∧ 0 ≤ p.2 ∧ p.2 < 64
theorem codeP_inj {p q : Int × Int} (hp : Small p) (hq : Small q) (h : codeP p = codeP q) : p = q := by
  obtain ⟨a, b⟩ := p
  obtain ⟨c, d⟩ := q
  simp only [Small, codeP] at *
  have : a = c := by omega
  have : b = d := by omega
  simp_all
theorem insU_mem {p : Int × Int} (hp : Small p) : ∀ {l : List (Int × Int)}, (∀ q ∈ l, Small q) → ∀ x, x ∈ insU p l ↔ x = p ∨ x ∈ l
  | [], _, x => by simp [insU]
  | q :: l, h, x => by
    unfold insU
    split
    · simp
    · split
      · rename_i e
        have := codeP_inj hp (h q (by simp)) e
        subst this
        simp
      · rw [List.mem_cons, insU_mem hp (fun z hz => h z (by simp [hz])) x, List.mem_cons]
        constructor <;> (rintro (h | h | h) <;> simp [h])
theorem insU_sorted {p : Int × Int} (hp : Small p) : ∀ {l : List (Int × Int)}, (∀ q ∈ l, Small q) → l.Pairwise (fun a b => codeP a < codeP b) → (insU p l).Pairwise (fun a b => codeP a < codeP b)
  | [], _, _ => by simp [insU]
  | q :: l, h, s => by
    have h' : ∀ z ∈ l, Small z := fun z hz => h z (by simp [hz])
    rw [List.pairwise_cons] at s
    unfold insU
    split
    · rename_i c
      rw [List.pairwise_cons]
      refine ⟨fun z hz => ?_, List.pairwise_cons.mpr s⟩
      rcases List.mem_cons.mp hz with e | hz
      · rw [e]; exact c
      · exact Int.lt_trans c (s.1 z hz)
    · split
      · exact List.pairwise_cons.mpr s
      · rw [List.pairwise_cons]
        refine ⟨fun z hz => ?_, insU_sorted hp h' s.2⟩
        rcases (insU_mem hp h' z).mp hz with e | hz
        · rw [e]; omega
        · exact s.1 z hz
theorem sortU_spec : ∀ {ps : List (Int × Int)}, (∀ p ∈ ps, Small p) → (∀ x, x ∈ sortU ps ↔ x ∈ ps) ∧ (sortU ps).Pairwise (fun a b => codeP a < codeP b)
  | [], _ => ⟨fun x => by simp [sortU], by simp [sortU]⟩
  | p :: ps, h => by
    obtain ⟨m, s⟩ := sortU_spec (ps := ps) fun z hz => h z (by simp [hz])
    have sm : ∀ q ∈ sortU ps, Small q := fun q hq => h q (by simp [(m q).mp hq])
    refine ⟨fun x => ?_, insU_sorted (h p (by simp)) sm s⟩
    show x ∈ insU p (sortU ps) ↔ _
    rw [insU_mem (h p (by simp)) sm x, m x, List.mem_cons]
theorem sorted_uniq {l m : List (Int × Int)} (hl : l.Pairwise (fun a b => codeP a < codeP b)) (hm : m.Pairwise (fun a b => codeP a < codeP b)) (h : ∀ x, x ∈ l ↔ x ∈ m) : l = m := by
  induction l generalizing m with
  | nil =>
    cases m with
    | nil => rfl
    | cons b m => exact absurd ((h b).mpr (by simp)) (by simp)
  | cons a l ih =>
    cases m with
    | nil => exact absurd ((h a).mp (by simp)) (by simp)
    | cons b m =>
      rw [List.pairwise_cons] at hl hm
      have e : a = b := by
        rcases List.mem_cons.mp ((h a).mp (by simp)) with e | e
        · exact e
        · rcases List.mem_cons.mp ((h b).mpr (by simp)) with e2 | e2
          · exact e2.symm
          · have := hm.1 a e
            have := hl.1 b e2
            omega
      subst e
      congr 1
      refine ih hl.2 hm.2 fun x => ?_
      constructor
      · intro hx
        rcases List.mem_cons.mp ((h x).mp (by simp [hx])) with e | e
        · have := hl.1 x hx
          rw [e] at this
          omega
        · exact e
      · intro hx
        rcases List.mem_cons.mp ((h x).mpr (by simp [hx])) with e | e
        · have := hm.1 x hx
          rw [e] at this
          omega
        · exact e
theorem pairOf_some {d : D} {p : Int × Int} (h : pairOf d = some p) : d = pairD p ∧ Small p := by
  unfold pairOf at h
  split at h
  · split at h
    · rename_i hc
      cases h
      exact ⟨rfl, hc⟩
    · cases h
  · cases h

def setPM (g : D → PEnv → Option PEnv) (me : PEnv → M D) : List D → List (Int × Int) → PEnv → M (List (Int × Int))
  | [], acc, _ => pure acc
  | d :: ds, acc, ρ => lift (g d ρ) >>= fun ρ1 => noexc (me ρ1) >>= fun z => lift (pairOf z) >>= fun p => lift (if acc.length < 63 then some () else none) >>= fun _ => setPM g me ds (insU p acc) ρ
def unE (ρ : PEnv) : PEnv := ρ.map fun _ => .un
def dicKeysO : D → Option (List D)
  | .dic true l => some (l.map (·.1))
  | _ => none
theorem dicKeys_some {d : D} {ds : List D} (h : dicKeysO d = some ds) : ∃ l, d = .dic true l ∧ ds = l.map (·.1) := by
  unfold dicKeysO at h
  split at h
  · cases h
    exact ⟨_, rfl, rfl⟩
  · cases h
def fSetU (n : PEnv → M D) (g : D → PEnv → Option PEnv) (me : PEnv → M D) : PEnv → M (List D) := fun ρ =>
  n ρ >>= fun d => lift (dicKeysO d) >>= fun ds => setPM g me ds [] (unE ρ) >>= fun l => pure (l.map pairD)

section
variable {X : Cx} {E : Ev} {W : XK} {k : Nat} {e elt tg iter : Expr} {scope : Scope} {p pos spos : Pos} {n : PEnv → M D} {me : PEnv → M D} {g : D → PEnv → Option PEnv} {ns : List Nat}
theorem f_setSort (c : Ctx X E W k) (own : List (Str × Nat)) (hm : X.mg "sorted" = none) (ha : CE X E W .full iter n) (ok : blkC X.N X.env.scope scope own = true) (hns : ∀ i ∈ ns, i ∈ own.map (·.2))
    (hg : ∀ (s : Shared) (H : Hp) (C : Addr) (cl : List (Str × Addr)) (fp : List Addr), CT1 (X.blk s H scope (compEnvC scope cl C X.env) fp) E tg ns g)
    (he : ∀ (s : Shared) (H : Hp) (C : Addr) (cl : List (Str × Addr)) (fp : List Addr), CE (X.blk s H scope (compEnvC scope cl C X.env) fp) E E0 .full elt me)
    (hs : ∀ x, foldedSetIterable iter X.env x = pure x := by intro _; rfl) (hG : Gl X "sorted" := by rfl)
    (h1 : starEach [.SetComp elt [⟨tg, iter, [], 0⟩] scope spos] X.env = (false, eval (.SetComp elt [⟨tg, iter, [], 0⟩] scope spos) X.env) :: starEach [] X.env := by rfl) :
    CF X E W (.Call (.Name "sorted" p) [.SetComp elt [⟨tg, iter, [], 0⟩] scope spos] [] pos) (fSetU n g me) := by
  obtain ⟨td, pd, kd⟩ := ha
  have pg : ∀ (s : Shared) (H : Hp) (C : Addr) (cl : List (Str × Addr)) (fp : List Addr), PG (X.blk s H scope (compEnvC scope cl C X.env) fp) tg (fun v σ H' Q => ∀ s H C cl fp, (hg s H C cl fp).choose v σ H' Q) := fun s H C cl fp =>
    ⟨fun pins s' σ H' v u Q I r h => (hg s H C cl fp).choose_spec.1.run pins s' σ H' v u Q I r (h s H C cl fp)⟩
  have pe : ∀ (s : Shared) (H : Hp) (C : Addr) (cl : List (Str × Addr)) (fp : List Addr), PE (X.blk s H scope (compEnvC scope cl C X.env) fp) elt (fun σ H' Q => ∀ s H C cl fp, (he s H C cl fp).choose σ H' Q) := fun s H C cl fp =>
    ⟨fun pins s' σ H' Q I h => (he s H C cl fp).choose_spec.1.run pins s' σ H' Q I (h s H C cl fp)⟩
  refine ⟨_, pe_callB (L2.cr_sortedT c.calm) hG hm rfl (pa_cons (pe_setT c.calm c.nd c.u65 pd (blkOk_by ok) pg pe hs) pa_nil h1) (by decide) (by decide) h1 rfl, fun σ H ρ s M0 A Q R dl h => ?_⟩
  unfold fSetU at h
  obtain ⟨QQ, hQ⟩ : ∃ QQ : List PL.D → Dl → Hp → Prop, QQ = fun d _ H' => ∀ a vs, H a = none → H' a = some (.lst vs) → RepA E (fun b => Own M0 A b ∨ b = a) H' vs d → Q (.ref a) H' := ⟨_, rfl⟩
  rw [← hQ] at h
  unfold tCB tCons tNil tSetT
  show td σ H _
  refine kd σ H ρ s M0 A _ R dl (h.bind.mono fun d s1 H1 _ x1 d1 h v rv => ?_)
  obtain ⟨ds, eds, h⟩ := h.liftB
  have R1 := R.ext x1 d1
  have rv : Rep E (Own M0 A) H1 v d := rv
  obtain ⟨l, rfl, rfl⟩ := dicKeys_some eds
  cases rv with
  | dt ha na hk1 hk2 =>
  rename_i a ks
  have lk : ks.length = l.length := by
    have := congrArg List.length hk1
    simpa using this
  have aDm : ¬ Dm E a := fun z => na (R1.dm a z)
  refine ⟨a, ks, rfl, ha, fun od D hD => ?_⟩
  have nDa : D ≠ a := fun z => by rw [z, ha] at hD; cases hD
  have nDd : ¬ Dm E D := fun z => by
    rcases z with ⟨o, z | z⟩
    · rw [z, d1.p o] at hD; cases hD
    · rw [z, d1.q o] at hD; cases hD
  refine ⟨fun i H' => H' a = some (.frz od (.dT ks)) ∧ (∀ b o, b ≠ a → H1 b = some o → ¬ Dm E b → H' b = some o) ∧ ∃ s' acc L, DealAt E H' s' ∧ H' D = some (SetTO X.prog X.w D L) ∧ (∀ p ∈ L, H' p.1 = some (.tup (p.2.map V.int))) ∧
      (∀ p ∈ acc, Small p) ∧ acc.Pairwise (fun a b => codeP a < codeP b) ∧ (L.map (·.2)).Nodup ∧ (∀ k, k ∈ L.map (·.2) ↔ ∃ p ∈ acc, k = [p.1, p.2]) ∧ i ≤ l.length ∧
      Fin E W H1 ((setPM g me ((l.map (·.1)).drop i) acc (unE ρ) >>= fun r => pure (r.map pairD)) s') QQ,
    ⟨?_, ?_, s1, [], [], ?_, upd_same, by simp, by simp, by simp, by simp, by simp, by simp, ?_⟩, ?_⟩
  · rw [upd_ne nDa.symm]; exact upd_same
  · intro b o nb e _
    have nb2 : b ≠ D := fun z => by rw [z, hD] at e; cases e
    rw [upd_ne nb2, upd_ne nb]
    exact e
  · have z := d1.laid (o := .frz od (.dT ks)) (p := D) hD
    refine ⟨fun o => ?_, fun o => ?_⟩
    · rw [upd_ne fun z => nDd ⟨o, .inl z.symm⟩, upd_ne fun z => aDm ⟨o, .inl z.symm⟩]; exact d1.p o
    · rw [upd_ne fun z => nDd ⟨o, .inr z.symm⟩, upd_ne fun z => aDm ⟨o, .inr z.symm⟩]; exact d1.q o
  · simpa using h
  rintro i H' ⟨fz, old, s', acc, L, d', hDL, hL, sm, so, ndL, mem, il, fin⟩
  have kT : ∀ p ∈ L, SqT X.K H' p.1 (p.2.map V.int) := fun p hp => .inl (.inl (hL p hp))
  refine ⟨fz, fun hi => ?_, fun kk vv q ekv hq => ?_⟩
  · -- the end
    have ei : i = l.length := by omega
    rw [ei, List.drop_of_length_le (by simp)] at fin
    have fin : Fin E W H1 ((Pure.pure (acc.map pairD) : M (List PL.D)) s') QQ := by simpa [setPM] using fin
    have keep : ∀ p ∈ L, p.1 ≠ a := fun p hp z => by
      have := hL p hp
      rw [z, fz] at this
      cases this
    refine ⟨D, L, 2, 64, rfl, by rw [upd_ne nDa]; exact hDL, fun p hp => .inl (.inl (by rw [upd_ne (keep p hp)]; exact hL p hp)), by decide, fun p hp => ?_, fun L' q pm nd _ pw hq => ?_⟩
    · obtain ⟨x, hx, ex⟩ := (mem p.2).mp (List.mem_map.mpr ⟨p, hp, rfl⟩)
      rw [ex]
      refine ⟨rfl, fun m hm => ?_⟩
      have := sm x hx
      unfold Small at this
      rcases List.mem_cons.mp hm with e | hm
      · omega
      · rcases List.mem_cons.mp hm with e | hm
        · omega
        · cases hm
    · have qa : q ≠ a := fun z => by rw [z, upd_same] at hq; cases hq
      have xx : Ext (Dm E) H1 (upd (upd H' a (.dT ks)) q (.lst (L'.map fun q => V.ref q.1))) := fun b o e nn => by
        by_cases hb : b = a
        · rw [hb, upd_ne qa.symm, upd_same, ← e, hb]
          exact ha.symm
        · have z := old b o hb e nn
          have z2 : upd H' a (.dT ks) b = some o := by rw [upd_ne hb]; exact z
          rw [upd_ne fun y => by rw [y, hq] at z2; cases z2]
          exact z2
      have d2 : DealAt E (upd H' a (.dT ks)) s' := ⟨fun o => by rw [upd_ne fun z => aDm ⟨o, .inl z.symm⟩]; exact d'.p o, fun o => by rw [upd_ne fun z => aDm ⟨o, .inr z.symm⟩]; exact d'.q o⟩
      have d3 : DealAt E (upd (upd H' a (.dT ks)) q (.lst (L'.map fun q => V.ref q.1))) s' := d2.laid hq
      have x0 : Ext (Dm E) H (upd H' a (.dT ks)) := x1.trans fun b o e nn => by
        by_cases hb : b = a
        · rw [hb, upd_same, ← e, hb]; exact ha.symm
        · rw [upd_ne hb]; exact old b o hb e nn
      have fin := fin _ xx d3
      rw [hQ] at fin
      refine fin q _ (was_free x0 d2 hq) upd_same ?_
      -- what it bears
      have pr : ∀ p ∈ L', ∃ x, Small x ∧ p.2 = [x.1, x.2] := fun p hp => by
        obtain ⟨x, hx, ex⟩ := (mem p.2).mp (List.mem_map.mpr ⟨p, pm.mem_iff.mp hp, rfl⟩)
        exact ⟨x, sm x hx, ex⟩
      have up : ∀ M : List (Addr × List Int), (∀ p ∈ M, ∃ x, Small x ∧ p.2 = [x.1, x.2]) → ∃ xs : List (Int × Int), M.map (·.2) = xs.map (fun x => [x.1, x.2]) ∧ ∀ x ∈ xs, Small x := by
        intro M
        induction M with
        | nil => intro _; exact ⟨[], rfl, by simp⟩
        | cons p M ih =>
          intro hM
          obtain ⟨xs, e1, e2⟩ := ih fun z hz => hM z (by simp [hz])
          obtain ⟨x, s, e3⟩ := hM p (by simp)
          exact ⟨x :: xs, by simp [e1, e3], fun y hy => (List.mem_cons.mp hy).elim (fun e => by rw [e]; exact s) (e2 y)⟩
      obtain ⟨xs, exs, sxs⟩ := up L' pr
      have nd2 : xs.Nodup := by
        rw [exs] at nd
        exact L2.nodup_of_map nd
      have pw2 : xs.Pairwise fun x y => codeP x ≤ codeP y := by
        have z : (L'.map (·.2)).Pairwise fun q r => TS.code 64 q ≤ TS.code 64 r := List.pairwise_map.mpr pw
        rw [exs] at z
        have z := List.pairwise_map.mp z
        refine z.imp fun {x y} e => ?_
        rw [code_pair, code_pair] at e
        exact e
      have pw3 : xs.Pairwise fun x y => codeP x < codeP y := by
        refine List.Pairwise.imp_of_mem (fun {x y} hx hy hxy => ?_) (pw2.and nd2)
        have : codeP x ≠ codeP y := fun e => hxy.2 (codeP_inj (sxs x hx) (sxs y hy) e)
        have := hxy.1
        omega
      have memx : ∀ x, x ∈ xs ↔ x ∈ acc := fun x => by
        have e1 : x ∈ xs ↔ [x.1, x.2] ∈ L'.map (·.2) := by
          rw [exs, List.mem_map]
          constructor
          · intro hx; exact ⟨x, hx, rfl⟩
          · rintro ⟨y, hy, e⟩
            injection e with e1 e2
            injection e2 with e2 _
            rw [show x = y from Prod.ext e1.symm e2.symm]
            exact hy
        rw [e1, (pm.map (·.2)).mem_iff, mem]
        constructor
        · rintro ⟨y, hy, e⟩
          injection e with e1 e2
          injection e2 with e2 _
          rw [show x = y from Prod.ext e1 e2]
          exact hy
        · intro hx; exact ⟨x, hx, rfl⟩
      have exx : xs = acc := sorted_uniq pw3 so memx
      rw [← exx]
      have sat : ∀ p ∈ L', (upd (upd H' a (.dT ks)) q (.lst (L'.map fun q => V.ref q.1))) p.1 = some (.tup (p.2.map V.int)) := fun p hp => by
        have hp' := pm.mem_iff.mp hp
        have z : upd H' a (.dT ks) p.1 = some (.tup (p.2.map V.int)) := by rw [upd_ne (keep p hp')]; exact hL p hp'
        rw [upd_ne fun y => by rw [y, hq] at z; cases z]
        exact z
      have repL : ∀ (M : List (Addr × List Int)) (xs : List (Int × Int)), M.map (·.2) = xs.map (fun x => [x.1, x.2]) → (∀ p ∈ M, (upd (upd H' a (.dT ks)) q (.lst (L'.map fun q => V.ref q.1))) p.1 = some (.tup (p.2.map V.int))) →
          RepA E (fun b => Own M0 A b ∨ b = q) (upd (upd H' a (.dT ks)) q (.lst (L'.map fun q => V.ref q.1))) (M.map fun q => V.ref q.1) (xs.map pairD) := by
        intro M
        induction M with
        | nil =>
          intro xs e _
          cases xs with
          | nil => exact .nil
          | cons x xs => cases e
        | cons p M ih =>
          intro xs e hM
          cases xs with
          | nil => cases e
          | cons x xs =>
            injection e with e1 e2
            have z := hM p (by simp)
            rw [show p.2 = [x.1, x.2] from e1] at z
            exact .cons (.tup z (.cons (.int _) (.cons (.int _) .nil))) (ih xs e2 fun r hr => hM r (by simp [hr]))
      exact repL L' xs exs sat
  · -- a turn
    have hi : i < ks.length := by
      rcases Nat.lt_or_ge i ks.length with z | z
      · exact z
      · rw [List.getElem?_eq_none z] at ekv; cases ekv
    have hil : i < l.length := by omega
    have ek : (l.map (·.1))[i]? = some (tupD kk) := by
      rw [← hk1, List.getElem?_map, ekv]
      rfl
    have el : i < (l.map (·.1)).length := by simpa using hil
    rw [List.drop_eq_getElem_cons el] at fin
    have ek2 : (l.map (·.1))[i] = tupD kk := by
      rw [List.getElem?_eq_getElem el] at ek
      exact Option.some.inj ek
    rw [ek2] at fin
    have fin : Fin E W H1 ((lift (g (tupD kk) (unE ρ)) >>= fun ρ1 => noexc (me ρ1) >>= fun z => lift (pairOf z) >>= fun p => lift (if acc.length < 63 then some () else none) >>= fun _ => setPM g me ((l.map (·.1)).drop (i + 1)) (insU p acc) (unE ρ) >>= fun r => pure (r.map pairD)) s') QQ := by
      have e : ((lift (g (tupD kk) (unE ρ)) >>= fun ρ1 => noexc (me ρ1) >>= fun z => lift (pairOf z) >>= fun p => lift (if acc.length < 63 then some () else none) >>= fun _ => setPM g me ((l.map (·.1)).drop (i + 1)) (insU p acc) (unE ρ) >>= fun r => pure (r.map pairD)) : M (List PL.D)) =
          (setPM g me (tupD kk :: (l.map (·.1)).drop (i + 1)) acc (unE ρ) >>= fun r => pure (r.map pairD)) := by
        simp only [setPM, bind_assoc', pure_bind']
      rw [e]
      exact fin
    obtain ⟨ρ1, eg, fin⟩ := fin.liftB
    -- the block's names
    have RU : ER E (Dm E) (fun _ => none) H' (wipe σ (own.map (·.2))) (unE ρ) := by
      refine ⟨fun o => ⟨o, .inl rfl⟩, fun o => ⟨o, .inr rfl⟩, fun i a z => (by cases z), fun i j a z => (by cases z), fun b m => ?_, by unfold unE; rw [List.length_map, wipe_length]; exact R.len, fun j x hx => ?_⟩
      · rcases m with m | ⟨j, m⟩
        · rcases m with ⟨o, m | m⟩
          · rw [m]; exact ⟨_, d'.p o, trivial⟩
          · rw [m]; exact ⟨_, d'.q o, trivial⟩
        · cases m
      · unfold unE at hx
        rw [List.getElem?_map] at hx
        cases e : ρ[j]? with
        | none => rw [e] at hx; cases hx
        | some y => rw [e] at hx; cases hx; rfl
    have repk : ∀ kk : List Key, RepA E (Own (Dm E) fun _ => none) H' (kk.map kV) (kk.map keyD) := by
      intro kk
      induction kk with
      | nil => exact .nil
      | cons x kk ih =>
        refine .cons ?_ ih
        cases x with
        | inl i => exact .int i
        | inr x => exact .str x
    intro s0 H0 C0 cl0 fp0
    refine (hg s0 H0 C0 cl0 fp0).choose_spec.2 _ H' _ ρ1 _ _ (.ref q) _ _ RU (.tup hq (repk kk)) eg fun σ2 A2 R2 l2 b2 w2 => ?_
    refine ⟨(w2 _ hns).trans (wipe_sub fun _ z => z), fun s0 H0 C0 cl0 fp0 => ?_⟩
    rw [bind_run] at fin
    refine (he s0 H0 C0 cl0 fp0).choose_spec.2 _ H' ρ1 s' _ A2 _ R2 d' ?_
    cases e1 : me ρ1 s' with
    | bad => rw [noexc_bad e1] at fin; exact fin.elim
    | exc c l s2 => rw [noexc_exc e1] at fin; exact fin.elim
    | ok z s2 =>
      rw [noexc_ok e1] at fin
      intro H3 x3 d3 v rv
      have fin : Fin E W H1 ((lift (pairOf z) >>= fun p => lift (if acc.length < 63 then some () else none) >>= fun _ => setPM g me ((l.map (·.1)).drop (i + 1)) (insU p acc) (unE ρ) >>= fun r => pure (r.map pairD)) s2) QQ := fin
      obtain ⟨pp, ep, fin2⟩ := fin.liftB
      clear fin
      obtain ⟨_, efew, fin2⟩ := fin2.liftB
      split at efew
      case isFalse => cases efew
      rename_i few
      have lL : L.length = acc.length := by
        have z : (L.map (·.2)).Perm (acc.map fun p => [p.1, p.2]) := by
          refine (List.perm_ext_iff_of_nodup ndL (List.pairwise_map.mpr (so.imp fun {x y} h e => ?_))).mpr fun k => ?_
          · injection e with e1 e2
            injection e2 with e2 _
            unfold codeP at h
            rw [e1, e2] at h
            omega
          · rw [mem, List.mem_map]
            constructor
            · rintro ⟨p, hp, e⟩; exact ⟨p, hp, e.symm⟩
            · rintro ⟨p, hp, e⟩; exact ⟨p, hp, e.symm⟩
        simpa using z.length_eq
      obtain ⟨ez, spp⟩ := pairOf_some ep
      subst ez
      have rv : Rep E (Own (Dm E) A2) H3 v (pairD pp) := rv
      unfold pairD at rv
      cases rv with
      | tup hc rr =>
      rename_i c vs
      cases rr with
      | cons r1 rr =>
      cases rr with
      | cons r2 rr =>
      cases rr
      cases r1
      cases r2
      have kD : ∀ b o, H' b = some o → ¬ Dm E b → H3 b = some o := fun b o e nn => x3 b o e nn
      have nT : ∀ b vs, H' b = some (.tup vs) → ¬ Dm E b := fun b vs e z => by
        rcases z with ⟨o, z | z⟩
        · rw [z, d'.p o] at e; cases e
        · rw [z, d'.q o] at e; cases e
      have hD3 := kD _ _ hDL nDd
      have hL3 : ∀ p ∈ L, H3 p.1 = some (.tup (p.2.map V.int)) := fun p hp => kD _ _ (hL p hp) (nT _ _ (hL p hp))
      refine ⟨c, [pp.1, pp.2], L, rfl, .inl (.inl hc), hD3, fun p hp => .inl (.inl (hL3 p hp)), by omega, fun L' c1 c2 => ?_⟩
      have ups : ∀ b vs, H3 b = some (.tup vs) → upd H3 D (SetTO X.prog X.w D L') b = some (.tup vs) := fun b vs e => by
        rw [upd_ne fun z => by rw [z, hD3] at e; cases e]; exact e
      have memL : ∀ p, p ∈ L' → p ∈ L ∨ p = (c, [pp.1, pp.2]) := fun p hp => by
        by_cases z : [pp.1, pp.2] ∈ L.map (·.2)
        · rw [c1 z] at hp; exact .inl hp
        · rcases List.mem_cons.mp ((c2 z).mem_iff.mp hp) with e | e
          · exact .inr e
          · exact .inl e
      refine ⟨?_, fun b o nb e nn => ?_, s2, insU pp acc, L', ⟨fun o => by rw [upd_ne fun z => nDd ⟨o, .inl z.symm⟩]; exact d3.p o, fun o => by rw [upd_ne fun z => nDd ⟨o, .inr z.symm⟩]; exact d3.q o⟩, upd_same, fun p hp => ?_, fun p hp => ?_, insU_sorted spp sm so, ?_, fun k => ?_, by omega, fin2⟩
      · rw [upd_ne nDa.symm]; exact kD _ _ fz aDm
      · rw [upd_ne fun z => by rw [z, hD] at e; cases e]; exact kD _ _ (old b o nb e nn) nn
      · rcases memL p hp with e | e
        · exact ups _ _ (hL3 p e)
        · subst e
          exact ups _ _ hc
      · rcases (insU_mem spp sm p).mp hp with e | e
        · rw [e]; exact spp
        · exact sm p e
      · by_cases z : [pp.1, pp.2] ∈ L.map (·.2)
        · rw [c1 z]; exact ndL
        · rw [((c2 z).map (·.2)).nodup_iff, List.map_cons, List.nodup_cons]
          exact ⟨z, ndL⟩
      · have base : k ∈ L'.map (·.2) ↔ k = [pp.1, pp.2] ∨ k ∈ L.map (·.2) := by
          by_cases z : [pp.1, pp.2] ∈ L.map (·.2)
          · rw [c1 z]
            constructor
            · exact .inr
            · rintro (e | e)
              · rw [e]; exact z
              · exact e
          · rw [((c2 z).map (·.2)).mem_iff, List.map_cons, List.mem_cons]
        rw [base, mem]
        constructor
        · rintro (e | ⟨p, hp, e⟩)
          · exact ⟨pp, (insU_mem spp sm pp).mpr (.inl rfl), e⟩
          · exact ⟨p, (insU_mem spp sm p).mpr (.inr hp), e⟩
        · rintro ⟨p, hp, e⟩
          rcases (insU_mem spp sm p).mp hp with hp | hp
          · rw [hp] at e; exact .inl e
          · exact .inr ⟨p, hp, e⟩
end
end PL
end
section
set_option Elab.async false
set_option linter.all false
set_option maxRecDepth 100000
set_option maxHeartbeats 400000
namespace LF
open PySem PySem.Spec PyProof.Rows L2 PL
def top (i : Nat) : Stmt := PySem.Challenge.pw_leastfield_k77_high_points_gates_and_reg.main.body.getD i (.Pass ⟨0, 0, 0, 0⟩)
abbrev st_fraction : Stmt := top 5
def dd_fraction : He.DefD := ⟨("fraction", none), "fraction", "fraction", defArgs st_fraction, defBody st_fraction, defScope st_fraction, [], []⟩
abbrev ps_fraction : List Str := ["top", "bottom"]
abbrev st_plus : Stmt := top 6
def dd_plus : He.DefD := ⟨("plus", none), "plus", "plus", defArgs st_plus, defBody st_plus, defScope st_plus, [], []⟩
abbrev ps_plus : List Str := ["one", "other"]
abbrev st_minus : Stmt := top 7
def dd_minus : He.DefD := ⟨("minus", none), "minus", "minus", defArgs st_minus, defBody st_minus, defScope st_minus, [], []⟩
abbrev ps_minus : List Str := ["one", "other"]
abbrev st_times : Stmt := top 8
def dd_times : He.DefD := ⟨("times", none), "times", "times", defArgs st_times, defBody st_times, defScope st_times, [], []⟩
abbrev ps_times : List Str := ["one", "other"]
abbrev st_over : Stmt := top 9
def dd_over : He.DefD := ⟨("over", none), "over", "over", defArgs st_over, defBody st_over, defScope st_over, [], []⟩
abbrev ps_over : List Str := ["one", "other"]
abbrev st_compared : Stmt := top 10
def dd_compared : He.DefD := ⟨("compared", none), "compared", "compared", defArgs st_compared, defBody st_compared, defScope st_compared, [], []⟩
abbrev ps_compared : List Str := ["one", "other"]
abbrev st_moved : Stmt := top 12
def dd_moved : He.DefD := ⟨("moved", none), "moved", "moved", defArgs st_moved, defBody st_moved, defScope st_moved, [], []⟩
abbrev ps_moved : List Str := ["a", "b", "part"]
abbrev st_ways_round : Stmt := top 15
def dd_ways_round : He.DefD := ⟨("ways_round", none), "ways_round", "ways_round", defArgs st_ways_round, defBody st_ways_round, defScope st_ways_round, [], []⟩
abbrev ps_ways_round : List Str := ["triangle"]
abbrev st_ways_of : Stmt := top 16
def dd_ways_of : He.DefD := ⟨("ways_of", none), "ways_of", "ways_of", defArgs st_ways_of, defBody st_ways_of, defScope st_ways_of, [], []⟩
abbrev ps_ways_of : List Str := ["mesh"]
abbrev st_edges_of : Stmt := top 17
def dd_edges_of : He.DefD := ⟨("edges_of", none), "edges_of", "edges_of", defArgs st_edges_of, defBody st_edges_of, defScope st_edges_of, [], []⟩
abbrev ps_edges_of : List Str := ["mesh"]
abbrev st_is_high : Stmt := top 19
def dd_is_high : He.DefD := ⟨("is_high", none), "is_high", "is_high", defArgs st_is_high, defBody st_is_high, defScope st_is_high, [], []⟩
abbrev ps_is_high : List Str := ["field", "level", "number"]
abbrev st_high_points : Stmt := top 20
def dd_high_points : He.DefD := ⟨("high_points", none), "high_points", "high_points", defArgs st_high_points, defBody st_high_points, defScope st_high_points, [], []⟩
abbrev ps_high_points : List Str := ["mesh", "field", "level"]
abbrev st_gates : Stmt := top 21
def dd_gates : He.DefD := ⟨("gates", none), "gates", "gates", defArgs st_gates, defBody st_gates, defScope st_gates, [], []⟩
abbrev ps_gates : List Str := ["mesh", "field", "level"]
abbrev st_gate_point : Stmt := top 22
def dd_gate_point : He.DefD := ⟨("gate_point", none), "gate_point", "gate_point", defArgs st_gate_point, defBody st_gate_point, defScope st_gate_point, [], []⟩
abbrev ps_gate_point : List Str := ["mesh", "field", "level", "gate"]
abbrev st_lots_of : Stmt := top 23
def dd_lots_of : He.DefD := ⟨("lots_of", none), "lots_of", "lots_of", defArgs st_lots_of, defBody st_lots_of, defScope st_lots_of, [], []⟩
abbrev ps_lots_of : List Str := ["many", "pairs"]
abbrev st_regions : Stmt := top 24
def dd_regions : He.DefD := ⟨("regions", none), "regions", "regions", defArgs st_regions, defBody st_regions, defScope st_regions, [], []⟩
abbrev ps_regions : List Str := ["mesh", "field", "level"]
abbrev st__law_deal : Stmt := top 26
def dd__law_deal : He.DefD := ⟨("_law_deal", none), "_law_deal", "_law_deal", defArgs st__law_deal, defBody st__law_deal, defScope st__law_deal, [], []⟩
abbrev ps__law_deal : List Str := ["_law_script", "_law_base"]
abbrev st__law_draw : Stmt := top 27
def dd__law_draw : He.DefD := ⟨("_law_draw", none), "_law_draw", "_law_draw", defArgs st__law_draw, defBody st__law_draw, defScope st__law_draw, [], []⟩
abbrev ps__law_draw : List Str := ["_law_deal_here", "_law_bound"]
abbrev st__law_pick : Stmt := top 28
def dd__law_pick : He.DefD := ⟨("_law_pick", none), "_law_pick", "_law_pick", defArgs st__law_pick, defBody st__law_pick, defScope st__law_pick, [], []⟩
abbrev ps__law_pick : List Str := ["_law_deal_here", "_law_some"]
abbrev st__law_ways : Stmt := top 29
def dd__law_ways : He.DefD := ⟨("_law_ways", none), "_law_ways", "_law_ways", defArgs st__law_ways, defBody st__law_ways, defScope st__law_ways, [], []⟩
abbrev ps__law_ways : List Str := ["_law_triangles"]
abbrev st__law_whole : Stmt := top 30
def dd__law_whole : He.DefD := ⟨("_law_whole", none), "_law_whole", "_law_whole", defArgs st__law_whole, defBody st__law_whole, defScope st__law_whole, [], []⟩
abbrev ps__law_whole : List Str := ["_law_triangles"]
abbrev st__law_lattice : Stmt := top 31
def dd__law_lattice : He.DefD := ⟨("_law_lattice", none), "_law_lattice", "_law_lattice", defArgs st__law_lattice, defBody st__law_lattice, defScope st__law_lattice, [], []⟩
abbrev ps__law_lattice : List Str := ["_law_deal_here", "_law_wide", "_law_high"]
abbrev st__law_ringed : Stmt := top 32
def dd__law_ringed : He.DefD := ⟨("_law_ringed", none), "_law_ringed", "_law_ringed", defArgs st__law_ringed, defBody st__law_ringed, defScope st__law_ringed, [], []⟩
abbrev ps__law_ringed : List Str := ["_law_deal_here", "_law_many"]
abbrev st__law_cut : Stmt := top 33
def dd__law_cut : He.DefD := ⟨("_law_cut", none), "_law_cut", "_law_cut", defArgs st__law_cut, defBody st__law_cut, defScope st__law_cut, [], []⟩
abbrev ps__law_cut : List Str := ["_law_deal_here", "_law_triangles", "_law_turns"]
abbrev st__law_kept : Stmt := top 34
def dd__law_kept : He.DefD := ⟨("_law_kept", none), "_law_kept", "_law_kept", defArgs st__law_kept, defBody st__law_kept, defScope st__law_kept, [], []⟩
abbrev ps__law_kept : List Str := ["_law_points", "_law_triangles"]
abbrev st__law_put : Stmt := top 35
def dd__law_put : He.DefD := ⟨("_law_put", none), "_law_put", "_law_put", defArgs st__law_put, defBody st__law_put, defScope st__law_put, [], []⟩
abbrev ps__law_put : List Str := ["_law_deal_here", "_law_bottom", "_law_points", "_law_triangles"]
abbrev st__law_shuffled : Stmt := top 36
def dd__law_shuffled : He.DefD := ⟨("_law_shuffled", none), "_law_shuffled", "_law_shuffled", defArgs st__law_shuffled, defBody st__law_shuffled, defScope st__law_shuffled, [], []⟩
abbrev ps__law_shuffled : List Str := ["_law_deal_here", "_law_points", "_law_triangles"]
abbrev st__law_mesh : Stmt := top 37
def dd__law_mesh : He.DefD := ⟨("_law_mesh", none), "_law_mesh", "_law_mesh", defArgs st__law_mesh, defBody st__law_mesh, defScope st__law_mesh, [], []⟩
abbrev ps__law_mesh : List Str := ["_law_deal_here", "_law_most", "_law_more"]
abbrev st__law_frac : Stmt := top 38
def dd__law_frac : He.DefD := ⟨("_law_frac", none), "_law_frac", "_law_frac", defArgs st__law_frac, defBody st__law_frac, defScope st__law_frac, [], []⟩
abbrev ps__law_frac : List Str := ["_law_top", "_law_bottom"]
abbrev st__law_point : Stmt := top 39
def dd__law_point : He.DefD := ⟨("_law_point", none), "_law_point", "_law_point", defArgs st__law_point, defBody st__law_point, defScope st__law_point, [], []⟩
abbrev ps__law_point : List Str := ["_law_pair", "_law_bottom"]
abbrev st__law_least : Stmt := top 40
def dd__law_least : He.DefD := ⟨("_law_least", none), "_law_least", "_law_least", defArgs st__law_least, defBody st__law_least, defScope st__law_least, [], []⟩
abbrev ps__law_least : List Str := ["_law_triangle"]
abbrev st__law_made : Stmt := top 41
def dd__law_made : He.DefD := ⟨("_law_made", none), "_law_made", "_law_made", defArgs st__law_made, defBody st__law_made, defScope st__law_made, [], []⟩
abbrev ps__law_made : List Str := ["_law_bottom", "_law_points", "_law_triangles"]
abbrev st__law_plus : Stmt := top 42
def dd__law_plus : He.DefD := ⟨("_law_plus", none), "_law_plus", "_law_plus", defArgs st__law_plus, defBody st__law_plus, defScope st__law_plus, [], []⟩
abbrev ps__law_plus : List Str := ["_law_one", "_law_other"]
abbrev st__law_less : Stmt := top 43
def dd__law_less : He.DefD := ⟨("_law_less", none), "_law_less", "_law_less", defArgs st__law_less, defBody st__law_less, defScope st__law_less, [], []⟩
abbrev ps__law_less : List Str := ["_law_one", "_law_other"]
abbrev st__law_over : Stmt := top 44
def dd__law_over : He.DefD := ⟨("_law_over", none), "_law_over", "_law_over", defArgs st__law_over, defBody st__law_over, defScope st__law_over, [], []⟩
abbrev ps__law_over : List Str := ["_law_one", "_law_other"]
abbrev st__law_below : Stmt := top 45
def dd__law_below : He.DefD := ⟨("_law_below", none), "_law_below", "_law_below", defArgs st__law_below, defBody st__law_below, defScope st__law_below, [], []⟩
abbrev ps__law_below : List Str := ["_law_one", "_law_other"]
abbrev st__law_edges : Stmt := top 46
def dd__law_edges : He.DefD := ⟨("_law_edges", none), "_law_edges", "_law_edges", defArgs st__law_edges, defBody st__law_edges, defScope st__law_edges, [], []⟩
abbrev ps__law_edges : List Str := ["_law_triangles"]
abbrev st__law_field : Stmt := top 47
def dd__law_field : He.DefD := ⟨("_law_field", none), "_law_field", "_law_field", defArgs st__law_field, defBody st__law_field, defScope st__law_field, [], []⟩
abbrev ps__law_field : List Str := ["_law_deal_here", "_law_many"]
abbrev st__law_level : Stmt := top 48
def dd__law_level : He.DefD := ⟨("_law_level", none), "_law_level", "_law_level", defArgs st__law_level, defBody st__law_level, defScope st__law_level, [], []⟩
abbrev ps__law_level : List Str := ["_law_deal_here", "_law_field_here"]
abbrev st__law_gates : Stmt := top 49
def dd__law_gates : He.DefD := ⟨("_law_gates", none), "_law_gates", "_law_gates", defArgs st__law_gates, defBody st__law_gates, defScope st__law_gates, [], []⟩
abbrev ps__law_gates : List Str := ["_law_edges_here", "_law_field_here", "_law_level_here"]
abbrev st__law_lots : Stmt := top 50
def dd__law_lots : He.DefD := ⟨("_law_lots", none), "_law_lots", "_law_lots", defArgs st__law_lots, defBody st__law_lots, defScope st__law_lots, [], []⟩
abbrev ps__law_lots : List Str := ["_law_many", "_law_pairs"]
abbrev st__law_gate_point : Stmt := top 51
def dd__law_gate_point : He.DefD := ⟨("_law_gate_point", none), "_law_gate_point", "_law_gate_point", defArgs st__law_gate_point, defBody st__law_gate_point, defScope st__law_gate_point, [], []⟩
abbrev ps__law_gate_point : List Str := ["_law_points", "_law_bottom", "_law_field_here", "_law_level_here", "_law_gate"]
abbrev st__law_is_right : Stmt := top 52
def dd__law_is_right : He.DefD := ⟨("_law_is_right", none), "_law_is_right", "_law_is_right", defArgs st__law_is_right, defBody st__law_is_right, defScope st__law_is_right, [], []⟩
abbrev ps__law_is_right : List Str := ["_law_mesh_here", "_law_bottom", "_law_points", "_law_edges_here", "_law_field_here", "_law_level_here"]
abbrev st_law : Stmt := top 53
def dd_law : He.DefD := ⟨("law", none), "law", "law", defArgs st_law, defBody st_law, defScope st_law, [], []⟩
abbrev ps_law : List Str := ["_law_script"]
structure Txt (P : Program) (w : World) (K : PySem.W.Frag) (mg : Str → Option Value) (base : Heap) (C : Str → Addr) : Prop where
  len : mg "len" = none
  range : mg "range" = none
  enumerate : mg "enumerate" = none
  zip : mg "zip" = none
  sorted : mg "sorted" = none
  min : mg "min" = none
  max : mg "max" = none
  sum : mg "sum" = none
  list : mg "list" = none
  tuple : mg "tuple" = none
  dict : mg "dict" = none
  abs : mg "abs" = none
  int : mg "int" = none
  repr : mg "repr" = none
  gcd : mg "gcd" = some (.builtin "math.gcd")
  cl_Mesh : Cls K (C "Mesh")
  no_Mesh_points : NoAttr K (C "Mesh") "points"
  no_Mesh_triangles : NoAttr K (C "Mesh") "triangles"
  rec_Mesh : Rec2 P w K mg base C "Mesh" "points" "triangles"
noncomputable section
abbrev nn_fraction : List Str := ["top", "bottom", "common"]
def n_fraction : PEnv → M (Fl × PEnv) := seqM (sIf (mT (mB eqD (getI 1) (mk1 (.int 0)))) (sNv) (sNil)) (seqM (sIf (mT (mB ltD (getI 1) (mk1 (.int 0)))) (sP2 0 1 (vE (mU negD (getI 0))) (vE (mU negD (getI 1)))) (sNil)) (seqM (sV 2 (vE (mL (arg2 fun a b => lift (gcdO a b)) (mC (getI 0) (mC (getI 1) mN))))) (sR (mL mkTup (mC (mB fdivD (getI 0) (getI 2)) (mC (mB fdivD (getI 1) (getI 2)) (mN)))))))
def F_fraction : List D → M D := runF 3 n_fraction
theorem sc_fraction : FnScope nn_fraction ps_fraction dd_fraction.scope := ⟨rfl, rfl, rfl, by decide +kernel, rfl, by decide +kernel, by decide +kernel⟩
theorem ok_fraction {P : Program} {w : World} {K : PySem.W.Frag} {mg : Str → Option Value} {base : Heap} {C : Str → Addr} (T : Txt P w K mg base C)  {f : Addr} {fd : FuncData} (D : FunD K dd_fraction.name dd_fraction.qual dd_fraction.params dd_fraction.body dd_fraction.scope [] [] f fd) (hm : mg dd_fraction.name = some (.ref f)) : Fn P w K mg base C dd_fraction ps_fraction 1 F_fraction := by
  refine ⟨f, fd, D, hm, D.bindsN (fun _ _ _ _ _ _ us hl => by
    obtain ⟨a0, a1, rfl⟩ := len2 hl
    kernel_rfl), ok_def (d := dd_fraction) (N := nn_fraction) (ps := ps_fraction) (n := n_fraction) D sc_fraction (fun E hK hC cdv A st s H W c hp => ?_)⟩
  subst hC
  exact s_cons (s_if (t_eq c (c_im 1) (c_int)) (s_one (s_never)) (s_nil)) (s_cons (s_if (t_lt (c_im 1) (c_int)) (s_one (s_par2 c 0 1 (CE.cv (b_neg (c_im 0))) (CE.cv (b_neg (c_im 1))))) (s_nil)) (s_cons (s_setV c 2 (CE.cv (g_gcd T.gcd (c_im 0) (c_im 1)))) (s_one (s_ret (c_tup (a_cons (b_fdiv (c_im 0) (c_im 2)) (a_cons (b_fdiv (c_im 1) (c_im 2)) (a_nil))))))))
abbrev nn_compared : List Str := ["one", "other", "cross"]
def n_compared : PEnv → M (Fl × PEnv) := seqM (sV 2 (vE (mB subD (mB mulD (mB subAny (getI 0) (mk1 (.int 0))) (mB subAny (getI 1) (mk1 (.int 1)))) (mB mulD (mB subAny (getI 1) (mk1 (.int 0))) (mB subAny (getI 0) (mk1 (.int 1))))))) (seqM (sIf (mT (mB eqD (getI 2) (mk1 (.int 0)))) (sR (mk1 (.int 0))) (sNil)) (sR (mIf (mT (mB gtD (getI 2) (mk1 (.int 0)))) (mk1 (.int 1)) (mU negD (mk1 (.int 1))))))
def F_compared : List D → M D := runF 3 n_compared
theorem sc_compared : FnScope nn_compared ps_compared dd_compared.scope := ⟨rfl, rfl, rfl, by decide +kernel, rfl, by decide +kernel, by decide +kernel⟩
theorem ok_compared {P : Program} {w : World} {K : PySem.W.Frag} {mg : Str → Option Value} {base : Heap} {C : Str → Addr} (T : Txt P w K mg base C)  {f : Addr} {fd : FuncData} (D : FunD K dd_compared.name dd_compared.qual dd_compared.params dd_compared.body dd_compared.scope [] [] f fd) (hm : mg dd_compared.name = some (.ref f)) : Fn P w K mg base C dd_compared ps_compared 1 F_compared := by
  refine ⟨f, fd, D, hm, D.bindsN (fun _ _ _ _ _ _ us hl => by
    obtain ⟨a0, a1, rfl⟩ := len2 hl
    kernel_rfl), ok_def (d := dd_compared) (N := nn_compared) (ps := ps_compared) (n := n_compared) D sc_compared (fun E hK hC cdv A st s H W c hp => ?_)⟩
  subst hC
  exact s_cons (s_setV c 2 (CE.cv (b_sub (b_mul (x_any c (c_im 0) (c_int)) (x_any c (c_im 1) (c_int))) (b_mul (x_any c (c_im 1) (c_int)) (x_any c (c_im 0) (c_int)))))) (s_cons (s_if (t_eq c (c_im 2) (c_int)) (s_one (s_ret (c_int))) (s_nil)) (s_one (s_ret (c_if (t_gt (c_im 2) (c_int)) (c_int) (b_neg (c_int))))))
abbrev nn_ways_round : List Str := ["triangle", "a", "b", "c"]
def n_ways_round : PEnv → M (Fl × PEnv) := seqM (sA (gTup' (gCons' (gN 1) (gCons' (gN 2) (gCons' (gN 3) (gNil'))))) (getI 0)) (sR (mL mkTup (mC (mL mkTup (mC (getI 1) (mC (getI 2) (mN)))) (mC (mL mkTup (mC (getI 2) (mC (getI 3) (mN)))) (mC (mL mkTup (mC (getI 3) (mC (getI 1) (mN)))) (mN))))))
def F_ways_round : List D → M D := runF 4 n_ways_round
theorem sc_ways_round : FnScope nn_ways_round ps_ways_round dd_ways_round.scope := ⟨rfl, rfl, rfl, by decide +kernel, rfl, by decide +kernel, by decide +kernel⟩
theorem ok_ways_round {P : Program} {w : World} {K : PySem.W.Frag} {mg : Str → Option Value} {base : Heap} {C : Str → Addr} (T : Txt P w K mg base C)  {f : Addr} {fd : FuncData} (D : FunD K dd_ways_round.name dd_ways_round.qual dd_ways_round.params dd_ways_round.body dd_ways_round.scope [] [] f fd) (hm : mg dd_ways_round.name = some (.ref f)) : Fn P w K mg base C dd_ways_round ps_ways_round 1 F_ways_round := by
  refine ⟨f, fd, D, hm, D.bindsN (fun _ _ _ _ _ _ us hl => by
    obtain ⟨a0, rfl⟩ := len1 hl
    kernel_rfl), ok_def (d := dd_ways_round) (N := nn_ways_round) (ps := ps_ways_round) (n := n_ways_round) D sc_ways_round (fun E hK hC cdv A st s H W c hp => ?_)⟩
  subst hC
  exact s_cons (s_asg (c_im 0) (y_tup c (y_cons (y_name c 1) (y_cons (y_name c 2) (y_cons (y_name c 3) (y_nil)))) (len_cons (len_cons (len_cons len_nil))))) (s_one (s_ret (c_tup (a_cons (c_tup (a_cons (c_im 1) (a_cons (c_im 2) (a_nil)))) (a_cons (c_tup (a_cons (c_im 2) (a_cons (c_im 3) (a_nil)))) (a_cons (c_tup (a_cons (c_im 3) (a_cons (c_im 1) (a_nil)))) (a_nil)))))))
abbrev nn_lots_of : List Str := ["many", "pairs", "label", "one", "other", "low", "high", "found", "first", "number"]
def n_lots_of : PEnv → M (Fl × PEnv) := seqM (sV 2 (vE (mF (fRg (getI 0))))) (seqM (sFor (iSq (getI 1)) (gTup' (gCons' (gN 3) (gCons' (gN 4) (gNil')))) (seqM (sPT [5, 6] (vC (vE (mL (arg2 fun a b => lift (minO a b)) (mC (mB subAny (getI 2) (getI 3)) (mC (mB subAny (getI 2) (getI 4)) mN)))) (vC (vE (mL (arg2 fun a b => lift (maxO a b)) (mC (mB subAny (getI 2) (getI 3)) (mC (mB subAny (getI 2) (getI 4)) mN)))) (vN)))) (sV 2 (vE (mF (blkM [8] (iSq (getI 2)) (gN 8) (aTrue) (mIf (mT (mB eqD (getI 8) (getI 6))) (getI 5) (getI 8)))))))) (seqM (sV 7 (vF (fL (mN)))) (seqM (sFor (iR1 (getI 0)) (gN 8) (sIf (mT (mB eqD (mB subAny (getI 2) (getI 8)) (getI 8))) (appM 7 (mL (arg1 fun d => lift (tupleO d)) (mC (mF (blkM [9] (iR1 (getI 0)) (gN 9) (mT (mB eqD (mB subAny (getI 2) (getI 9)) (getI 8))) (getI 9))) mN))) (sNil))) (sFz 7 (sR (mL (arg1 fun d => lift (tupleO d)) (mC (getI 7) mN)))))))
def F_lots_of : List D → M D := runF 10 n_lots_of
theorem sc_lots_of : FnScope nn_lots_of ps_lots_of dd_lots_of.scope := ⟨rfl, rfl, rfl, by decide +kernel, rfl, by decide +kernel, by decide +kernel⟩
theorem ok_lots_of {P : Program} {w : World} {K : PySem.W.Frag} {mg : Str → Option Value} {base : Heap} {C : Str → Addr} (T : Txt P w K mg base C)  {f : Addr} {fd : FuncData} (D : FunD K dd_lots_of.name dd_lots_of.qual dd_lots_of.params dd_lots_of.body dd_lots_of.scope [] [] f fd) (hm : mg dd_lots_of.name = some (.ref f)) : Fn P w K mg base C dd_lots_of ps_lots_of 1 F_lots_of := by
  refine ⟨f, fd, D, hm, D.bindsN (fun _ _ _ _ _ _ us hl => by
    obtain ⟨a0, a1, rfl⟩ := len2 hl
    kernel_rfl), ok_def (d := dd_lots_of) (N := nn_lots_of) (ps := ps_lots_of) (n := n_lots_of) D sc_lots_of (fun E hK hC cdv A st s H W c hp => ?_)⟩
  subst hC
  exact s_cons (s_setV c 2 (CE.cv (CF.ce (g_lrange c T.list T.range (c_im 0))))) (s_cons (s_for c hp (i_seq c (c_im 1)) (y_tup c (y_cons (y_name c 3) (y_cons (y_name c 4) (y_nil))) (len_cons (len_cons len_nil))) (s_cons (s_parT c (va_cons (CE.cv (g_min2 c T.min (x_any c (c_im 2) (c_im 3)) (x_any c (c_im 2) (c_im 4)))) (va_cons (CE.cv (g_max2 c T.max (x_any c (c_im 2) (c_im 3)) (x_any c (c_im 2) (c_im 4)))) (va_nil))) (n_cons c 5 (n_cons c 6 (n_nil)))) (s_one (s_setV c 2 (CE.cv (CF.ce (f_comp c [("first", 8)] (i_seq c (c_im 2)) (by rfl) (by decide) (fun s1 H1 a1 l1 p1 => y_name (c.blk s1 H1 l1 a1 p1) 8) (fun s1 H1 a1 l1 p1 => q_nil) (fun s1 H1 a1 l1 p1 => c_if (t_eq (c.blk s1 H1 l1 a1 p1) (c_im 8) (c_im 6)) (c_im 5) (c_im 8))))))))) (s_cons (s_setV c 7 (CF.cv (f_lst (a_nil)))) (s_cons (s_for c hp (i_range1 T.range (c_im 0)) (y_name c 8) (s_one (s_if (t_eq c (x_any c (c_im 2) (c_im 8)) (c_im 8)) (s_one (s_append c 7 (g_tuple c T.tuple (CF.ce (f_comp c [("number", 9)] (i_range1 T.range (c_im 0)) (by rfl) (by decide) (fun s1 H1 a1 l1 p1 => y_name (c.blk s1 H1 l1 a1 p1) 9) (fun s1 H1 a1 l1 p1 => q_one (t_eq (c.blk s1 H1 l1 a1 p1) (x_any (c.blk s1 H1 l1 a1 p1) (c_im 2) (c_im 9)) (c_im 8))) (fun s1 H1 a1 l1 p1 => c_im 9)))))) (s_nil)))) (s_frz 7 (s_one (s_ret (g_tuple c T.tuple (c_im 7))))))))
abbrev nn__law_deal : List Str := ["_law_script", "_law_base", "_law_cells", "_law_mix", "_law_cell"]
def n__law_deal : PEnv → M (Fl × PEnv) := seqM (sC 2 (blkM [4] (iSq (mF (fCutS (getI 0) (oN) (oS (mk1 (.int 63)))))) (gN 4) (aTrue) (mL (arg1 fun d => lift (absO d)) (mC (mL (arg1 fun d => lift (intO d)) (mC (getI 4) mN)) mN)))) (seqM (sV 3 (vE (mB addD (mk1 (.int 402653189)) (mB mulD (mk1 (.int 61)) (getI 1))))) (seqM (sFor (iSq (getI 2)) (gN 4) (sV 3 (vE (mB modD (mL (arg1 fun d => lift (intO d)) (mC (mB addD (mB addD (mB mulD (getI 3) (mk1 (.int 48271))) (mB modD (getI 4) (mk1 (.int 2147483549)))) (mk1 (.int 79))) mN)) (mk1 (.int 2147483647)))))) (sR (mF (fL (mC (mF (fRev (mF (blkM [4] (iSq (getI 2)) (gN 4) (mT (mB geD (getI 4) (mB powD (mk1 (.int 10)) (mk1 (.int 18))))) (getI 4))))) (mC (getI 3) (mN))))))))
def F__law_deal : List D → M D := runF 5 n__law_deal
theorem sc__law_deal : FnScope nn__law_deal ps__law_deal dd__law_deal.scope := ⟨rfl, rfl, rfl, by decide +kernel, rfl, by decide +kernel, by decide +kernel⟩
theorem ok__law_deal {P : Program} {w : World} {K : PySem.W.Frag} {mg : Str → Option Value} {base : Heap} {C : Str → Addr} (T : Txt P w K mg base C)  {f : Addr} {fd : FuncData} (D : FunD K dd__law_deal.name dd__law_deal.qual dd__law_deal.params dd__law_deal.body dd__law_deal.scope [] [] f fd) (hm : mg dd__law_deal.name = some (.ref f)) : Fn P w K mg base C dd__law_deal ps__law_deal 1 F__law_deal := by
  refine ⟨f, fd, D, hm, D.bindsN (fun _ _ _ _ _ _ us hl => by
    obtain ⟨a0, a1, rfl⟩ := len2 hl
    kernel_rfl), ok_def (d := dd__law_deal) (N := nn__law_deal) (ps := ps__law_deal) (n := n__law_deal) D sc__law_deal (fun E hK hC cdv A st s H W c hp => ?_)⟩
  subst hC
  exact s_cons (s_setC c 2 [("_law_cell", 4)] (i_seq c (CF.ce (f_cutS c (c_im 0) (o_none) (o_some (c_int))))) (by rfl) (by decide) (fun s1 H1 a1 l1 p1 => y_name (c.blk s1 H1 l1 a1 p1) 4) (fun s1 H1 a1 l1 p1 => q_nil) (fun s1 H1 a1 l1 p1 => g_abs T.abs (g_int T.int (c_im 4)))) (s_cons (s_setV c 3 (CE.cv (b_add c (c_int) (b_mul (c_int) (c_im 1))))) (s_cons (s_for c hp (i_seq c (c_im 2)) (y_name c 4) (s_one (s_setV c 3 (CE.cv (b_mod (g_int T.int (b_add c (b_add c (b_mul (c_im 3) (c_int)) (b_mod (c_im 4) (c_int))) (c_int))) (c_int)))))) (s_one (s_ret (CF.ce (f_lst (a_cons (CF.ce (f_rev c (CF.ce (f_comp c [("_law_cell", 4)] (i_seq c (c_im 2)) (by rfl) (by decide) (fun s1 H1 a1 l1 p1 => y_name (c.blk s1 H1 l1 a1 p1) 4) (fun s1 H1 a1 l1 p1 => q_one (t_ge (c_im 4) (b_pow (c_int) (c_int)))) (fun s1 H1 a1 l1 p1 => c_im 4))))) (a_cons (c_im 3) (a_nil)))))))))
abbrev nn__law_draw : List Str := ["_law_deal_here", "_law_bound", "_law_rest"]
def n__law_draw : PEnv → M (Fl × PEnv) := seqM (sWh 1000 (aAnd (mT (mB dealNe (mB dealIx (getI 0) (mk1 (.int 0))) (mF (fL (mN))))) (mT (mB eqD (mB dealIx (mB dealIx (getI 0) (mk1 (.int 0))) (mU negD (mk1 (.int 1)))) (mk1 (.int 0))))) (sE (mU dealPop (mB dealIx (getI 0) (mk1 (.int 0)))))) (seqM (sIf (mT (mB dealNe (mB dealIx (getI 0) (mk1 (.int 0))) (mF (fL (mN))))) (seqM (sV 2 (vE (mL (arg1 fun d => lift (intO d)) (mC (mU dealPop (mB dealIx (getI 0) (mk1 (.int 0)))) mN)))) (seqM (sE (mDealApp (mB dealIx (getI 0) (mk1 (.int 0))) (mB fdivD (getI 2) (getI 1)))) (sR (mB modD (getI 2) (getI 1))))) (sNil)) (seqM (sDS (mB modD (mL (arg1 fun d => lift (intO d)) (mC (mB addD (mB mulD (mB dealIx (getI 0) (mk1 (.int 1))) (mk1 (.int 48271))) (mk1 (.int 107))) mN)) (mk1 (.int 2147483647))) (getI 0) (mk1 (.int 1))) (sR (mB modD (mL (arg1 fun d => lift (intO d)) (mC (mB fdivD (mB dealIx (getI 0) (mk1 (.int 1))) (mk1 (.int 64))) mN)) (getI 1)))))
def F__law_draw : List D → M D := runF 3 n__law_draw
theorem sc__law_draw : FnScope nn__law_draw ps__law_draw dd__law_draw.scope := ⟨rfl, rfl, rfl, by decide +kernel, rfl, by decide +kernel, by decide +kernel⟩
theorem ok__law_draw {P : Program} {w : World} {K : PySem.W.Frag} {mg : Str → Option Value} {base : Heap} {C : Str → Addr} (T : Txt P w K mg base C)  {f : Addr} {fd : FuncData} (D : FunD K dd__law_draw.name dd__law_draw.qual dd__law_draw.params dd__law_draw.body dd__law_draw.scope [] [] f fd) (hm : mg dd__law_draw.name = some (.ref f)) : Fn P w K mg base C dd__law_draw ps__law_draw 1 F__law_draw := by
  refine ⟨f, fd, D, hm, D.bindsN (fun _ _ _ _ _ _ us hl => by
    obtain ⟨a0, a1, rfl⟩ := len2 hl
    kernel_rfl), ok_def (d := dd__law_draw) (N := nn__law_draw) (ps := ps__law_draw) (n := n__law_draw) D sc__law_draw (fun E hK hC cdv A st s H W c hp => ?_)⟩
  subst hC
  exact s_cons (s_while (fun _ => 1000) hp (CW.ct (w_and (t_dealNe c (x_deal c (c_im 0) (c_int)) (CF.ce (f_lst (a_nil)))) (w_and1 (t_eq c (x_deal c (x_deal c (c_im 0) (c_int)) (b_neg (c_int))) (c_int))))) (s_one (s_expr (x_dealPop c (x_deal c (c_im 0) (c_int)))))) (s_cons (s_if (t_dealNe c (x_deal c (c_im 0) (c_int)) (CF.ce (f_lst (a_nil)))) (s_cons (s_setV c 2 (CE.cv (g_int T.int (x_dealPop c (x_deal c (c_im 0) (c_int)))))) (s_cons (s_expr (x_dealApp c (x_deal c (c_im 0) (c_int)) (b_fdiv (c_im 2) (c_im 1)))) (s_one (s_ret (b_mod (c_im 2) (c_im 1)))))) (s_nil)) (s_cons (s_dealSet c (b_mod (g_int T.int (b_add c (b_mul (x_deal c (c_im 0) (c_int)) (c_int)) (c_int))) (c_int)) (c_im 0) (c_int)) (s_one (s_ret (b_mod (g_int T.int (b_fdiv (x_deal c (c_im 0) (c_int)) (c_int))) (c_im 1))))))
abbrev nn__law_ways : List Str := ["_law_triangles", "_law_found", "_law_at", "_law_triangle", "_law_a", "_law_b", "_law_c", "_law_way"]
def n__law_ways : PEnv → M (Fl × PEnv) := seqM (sV 1 (vD true (dNew))) (seqM (sFor (iEn (getI 0)) (gTup' (gCons' (gN 2) (gCons' (gN 3) (gNil')))) (seqM (sA (gTup' (gCons' (gN 4) (gCons' (gN 5) (gCons' (gN 6) (gNil'))))) (getI 3)) (sFor (iSq (mF (fL (mC (mL mkTup (mC (getI 4) (mC (getI 5) (mN)))) (mC (mL mkTup (mC (getI 5) (mC (getI 6) (mN)))) (mC (mL mkTup (mC (getI 6) (mC (getI 4) (mN)))) (mN))))))) (gN 7) (dputM 1 (getI 2) (getI 7))))) (sFz 1 (sR (getI 1))))
def F__law_ways : List D → M D := runF 8 n__law_ways
theorem sc__law_ways : FnScope nn__law_ways ps__law_ways dd__law_ways.scope := ⟨rfl, rfl, rfl, by decide +kernel, rfl, by decide +kernel, by decide +kernel⟩
theorem ok__law_ways {P : Program} {w : World} {K : PySem.W.Frag} {mg : Str → Option Value} {base : Heap} {C : Str → Addr} (T : Txt P w K mg base C)  {f : Addr} {fd : FuncData} (D : FunD K dd__law_ways.name dd__law_ways.qual dd__law_ways.params dd__law_ways.body dd__law_ways.scope [] [] f fd) (hm : mg dd__law_ways.name = some (.ref f)) : Fn P w K mg base C dd__law_ways ps__law_ways 1 F__law_ways := by
  refine ⟨f, fd, D, hm, D.bindsN (fun _ _ _ _ _ _ us hl => by
    obtain ⟨a0, rfl⟩ := len1 hl
    kernel_rfl), ok_def (d := dd__law_ways) (N := nn__law_ways) (ps := ps__law_ways) (n := n__law_ways) D sc__law_ways (fun E hK hC cdv A st s H W c hp => ?_)⟩
  subst hC
  exact s_cons (s_setV c 1 (CD.cv (d_newT))) (s_cons (s_for c hp (i_enum c T.enumerate (c_im 0)) (y_tup c (y_cons (y_name c 2) (y_cons (y_name c 3) (y_nil))) (len_cons (len_cons len_nil))) (s_cons (s_asg (c_im 3) (y_tup c (y_cons (y_name c 4) (y_cons (y_name c 5) (y_cons (y_name c 6) (y_nil)))) (len_cons (len_cons (len_cons len_nil))))) (s_one (s_for c hp (i_seq c (CF.ce (f_lst (a_cons (c_tup (a_cons (c_im 4) (a_cons (c_im 5) (a_nil)))) (a_cons (c_tup (a_cons (c_im 5) (a_cons (c_im 6) (a_nil)))) (a_cons (c_tup (a_cons (c_im 6) (a_cons (c_im 4) (a_nil)))) (a_nil))))))) (y_name c 7) (s_one (s_dput c 1 (c_im 2) (c_im 7))))))) (s_frz 1 (s_one (s_ret (c_im 1)))))
abbrev nn__law_kept : List Str := ["_law_points", "_law_triangles", "_law_known", "_law_found", "_law_at", "_law_triangle", "_law_a", "_law_b", "_law_c"]
def n__law_kept : PEnv → M (Fl × PEnv) := seqM (sPT [2, 3] (vC (vD false (dNew)) (vC (vF (fL (mN))) (vN)))) (seqM (sFor (iR1 (mL (arg1 lenD) (mC (getI 0) mN))) (gN 4) (sIf (mT (mB neD (mF (blkM [5] (iSq (getI 1)) (gN 5) (mT (mB inAny (getI 4) (getI 5))) (getI 5))) (mF (fL (mN))))) (seqM (dputM 2 (mL (arg1 lenD) (mC (getS 3) mN)) (getI 4)) (appM 3 (mB subAny (getI 0) (getI 4)))) (sNil))) (sFz 3 (sFz 2 (sR (mL mkTup (mC (getI 3) (mC (mF (blkM [6, 7, 8] (iSq (getI 1)) (gTup' (gCons' (gN 6) (gCons' (gN 7) (gCons' (gN 8) (gNil'))))) (aTrue) (mL mkTup (mC (mB subAny (getI 2) (getI 6)) (mC (mB subAny (getI 2) (getI 7)) (mC (mB subAny (getI 2) (getI 8)) (mN))))))) (mN))))))))
def F__law_kept : List D → M D := runF 9 n__law_kept
theorem sc__law_kept : FnScope nn__law_kept ps__law_kept dd__law_kept.scope := ⟨rfl, rfl, rfl, by decide +kernel, rfl, by decide +kernel, by decide +kernel⟩
theorem ok__law_kept {P : Program} {w : World} {K : PySem.W.Frag} {mg : Str → Option Value} {base : Heap} {C : Str → Addr} (T : Txt P w K mg base C)  {f : Addr} {fd : FuncData} (D : FunD K dd__law_kept.name dd__law_kept.qual dd__law_kept.params dd__law_kept.body dd__law_kept.scope [] [] f fd) (hm : mg dd__law_kept.name = some (.ref f)) : Fn P w K mg base C dd__law_kept ps__law_kept 1 F__law_kept := by
  refine ⟨f, fd, D, hm, D.bindsN (fun _ _ _ _ _ _ us hl => by
    obtain ⟨a0, a1, rfl⟩ := len2 hl
    kernel_rfl), ok_def (d := dd__law_kept) (N := nn__law_kept) (ps := ps__law_kept) (n := n__law_kept) D sc__law_kept (fun E hK hC cdv A st s H W c hp => ?_)⟩
  subst hC
  exact s_cons (s_parT c (va_cons (CD.cv (d_newK)) (va_cons (CF.cv (f_lst (a_nil))) (va_nil))) (n_cons c 2 (n_cons c 3 (n_nil)))) (s_cons (s_for c hp (i_range1 T.range (g_len c T.len (c_im 0))) (y_name c 4) (s_one (s_if (t_ne c (CF.ce (f_comp c [("_law_triangle", 5)] (i_seq c (c_im 1)) (by rfl) (by decide) (fun s1 H1 a1 l1 p1 => y_name (c.blk s1 H1 l1 a1 p1) 5) (fun s1 H1 a1 l1 p1 => q_one (t_inA (c.blk s1 H1 l1 a1 p1) (c_im 4) (c_im 5))) (fun s1 H1 a1 l1 p1 => c_im 5))) (CF.ce (f_lst (a_nil)))) (s_cons (s_dput c 2 (g_len c T.len (c_sh 3)) (c_im 4)) (s_one (s_append c 3 (x_any c (c_im 0) (c_im 4))))) (s_nil)))) (s_frz 3 (s_frz 2 (s_one (s_ret (c_tup (a_cons (c_im 3) (a_cons (CF.ce (f_comp c [("_law_a", 6), ("_law_b", 7), ("_law_c", 8)] (i_seq c (c_im 1)) (by rfl) (by decide) (fun s1 H1 a1 l1 p1 => y_tup (c.blk s1 H1 l1 a1 p1) (y_cons (y_name (c.blk s1 H1 l1 a1 p1) 6) (y_cons (y_name (c.blk s1 H1 l1 a1 p1) 7) (y_cons (y_name (c.blk s1 H1 l1 a1 p1) 8) (y_nil)))) (len_cons (len_cons (len_cons len_nil)))) (fun s1 H1 a1 l1 p1 => q_nil) (fun s1 H1 a1 l1 p1 => c_tup (a_cons (x_any (c.blk s1 H1 l1 a1 p1) (c_im 2) (c_im 6)) (a_cons (x_any (c.blk s1 H1 l1 a1 p1) (c_im 2) (c_im 7)) (a_cons (x_any (c.blk s1 H1 l1 a1 p1) (c_im 2) (c_im 8)) (a_nil))))))) (a_nil)))))))))
abbrev nn__law_frac : List Str := ["_law_top", "_law_bottom", "_law_high", "_law_low", "_law_turn"]
def n__law_frac : PEnv → M (Fl × PEnv) := seqM (sP2 2 3 (vE (mL (arg1 fun d => lift (absO d)) (mC (getI 0) mN))) (vE (mL (arg1 fun d => lift (absO d)) (mC (getI 1) mN)))) (seqM (sFor (iR1 (mk1 (.int 6000))) (gN 4) (seqM (sIf (mT (mB eqD (getI 3) (mk1 (.int 0)))) (sBrk) (sNil)) (sP2 2 3 (vE (getI 3)) (vE (mB modD (mL (arg1 fun d => lift (intO d)) (mC (getI 2) mN)) (getI 3)))))) (seqM (sV 2 (vE (mIf (mT (mB gtD (getI 1) (mk1 (.int 0)))) (getI 2) (mU negD (getI 2))))) (sR (mL mkTup (mC (mB fdivD (getI 0) (getI 2)) (mC (mB fdivD (getI 1) (getI 2)) (mN)))))))
def F__law_frac : List D → M D := runF 5 n__law_frac
theorem sc__law_frac : FnScope nn__law_frac ps__law_frac dd__law_frac.scope := ⟨rfl, rfl, rfl, by decide +kernel, rfl, by decide +kernel, by decide +kernel⟩
theorem ok__law_frac {P : Program} {w : World} {K : PySem.W.Frag} {mg : Str → Option Value} {base : Heap} {C : Str → Addr} (T : Txt P w K mg base C)  {f : Addr} {fd : FuncData} (D : FunD K dd__law_frac.name dd__law_frac.qual dd__law_frac.params dd__law_frac.body dd__law_frac.scope [] [] f fd) (hm : mg dd__law_frac.name = some (.ref f)) : Fn P w K mg base C dd__law_frac ps__law_frac 1 F__law_frac := by
  refine ⟨f, fd, D, hm, D.bindsN (fun _ _ _ _ _ _ us hl => by
    obtain ⟨a0, a1, rfl⟩ := len2 hl
    kernel_rfl), ok_def (d := dd__law_frac) (N := nn__law_frac) (ps := ps__law_frac) (n := n__law_frac) D sc__law_frac (fun E hK hC cdv A st s H W c hp => ?_)⟩
  subst hC
  exact s_cons (s_par2 c 2 3 (CE.cv (g_abs T.abs (c_im 0))) (CE.cv (g_abs T.abs (c_im 1)))) (s_cons (s_for c hp (i_range1 T.range (c_int)) (y_name c 4) (s_cons (s_if (t_eq c (c_im 3) (c_int)) (s_one (s_break)) (s_nil)) (s_one (s_par2 c 2 3 (CE.cv (c_im 3)) (CE.cv (b_mod (g_int T.int (c_im 2)) (c_im 3))))))) (s_cons (s_setV c 2 (CE.cv (c_if (t_gt (c_im 1) (c_int)) (c_im 2) (b_neg (c_im 2))))) (s_one (s_ret (c_tup (a_cons (b_fdiv (c_im 0) (c_im 2)) (a_cons (b_fdiv (c_im 1) (c_im 2)) (a_nil))))))))
abbrev nn__law_least : List Str := ["_law_triangle", "_law_at"]
def n__law_least : PEnv → M (Fl × PEnv) := seqM (sV 1 (vE (mIdx (getI 0) (mL (arg1 fun d => lift (minAO false d)) (mC (getI 0) mN))))) (sR (mL (arg1 fun d => lift (tupleO d)) (mC (mCut (mB addD (mF (fA (fun d => lift (listO d)) (getI 0))) (mF (fA (fun d => lift (listO d)) (getI 0)))) (oS (getI 1)) (oS (mB addD (getI 1) (mk1 (.int 3))))) mN)))
def F__law_least : List D → M D := runF 2 n__law_least
theorem sc__law_least : FnScope nn__law_least ps__law_least dd__law_least.scope := ⟨rfl, rfl, rfl, by decide +kernel, rfl, by decide +kernel, by decide +kernel⟩
theorem ok__law_least {P : Program} {w : World} {K : PySem.W.Frag} {mg : Str → Option Value} {base : Heap} {C : Str → Addr} (T : Txt P w K mg base C)  {f : Addr} {fd : FuncData} (D : FunD K dd__law_least.name dd__law_least.qual dd__law_least.params dd__law_least.body dd__law_least.scope [] [] f fd) (hm : mg dd__law_least.name = some (.ref f)) : Fn P w K mg base C dd__law_least ps__law_least 1 F__law_least := by
  refine ⟨f, fd, D, hm, D.bindsN (fun _ _ _ _ _ _ us hl => by
    obtain ⟨a0, rfl⟩ := len1 hl
    kernel_rfl), ok_def (d := dd__law_least) (N := nn__law_least) (ps := ps__law_least) (n := n__law_least) D sc__law_least (fun E hK hC cdv A st s H W c hp => ?_)⟩
  subst hC
  exact s_cons (s_setV c 1 (CE.cv (c_index c (c_im 0) (g_min1 c T.min (c_im 0))))) (s_one (s_ret (g_tuple c T.tuple (c_cut c (b_add c (CF.ce (g_list c T.list (c_im 0))) (CF.ce (g_list c T.list (c_im 0)))) (o_some (c_im 1)) (o_some (b_add c (c_im 1) (c_int)))))))
abbrev nn__law_below : List Str := ["_law_one", "_law_other"]
def n__law_below : PEnv → M (Fl × PEnv) := sR (mB ltD (mB mulD (mB subAny (getI 0) (mk1 (.int 0))) (mB subAny (getI 1) (mk1 (.int 1)))) (mB mulD (mB subAny (getI 1) (mk1 (.int 0))) (mB subAny (getI 0) (mk1 (.int 1)))))
def F__law_below : List D → M D := runF 2 n__law_below
theorem sc__law_below : FnScope nn__law_below ps__law_below dd__law_below.scope := ⟨rfl, rfl, rfl, by decide +kernel, rfl, by decide +kernel, by decide +kernel⟩
theorem ok__law_below {P : Program} {w : World} {K : PySem.W.Frag} {mg : Str → Option Value} {base : Heap} {C : Str → Addr} (T : Txt P w K mg base C)  {f : Addr} {fd : FuncData} (D : FunD K dd__law_below.name dd__law_below.qual dd__law_below.params dd__law_below.body dd__law_below.scope [] [] f fd) (hm : mg dd__law_below.name = some (.ref f)) : Fn P w K mg base C dd__law_below ps__law_below 1 F__law_below := by
  refine ⟨f, fd, D, hm, D.bindsN (fun _ _ _ _ _ _ us hl => by
    obtain ⟨a0, a1, rfl⟩ := len2 hl
    kernel_rfl), ok_def (d := dd__law_below) (N := nn__law_below) (ps := ps__law_below) (n := n__law_below) D sc__law_below (fun E hK hC cdv A st s H W c hp => ?_)⟩
  subst hC
  exact s_one (s_ret (b_lt (b_mul (x_any c (c_im 0) (c_int)) (x_any c (c_im 1) (c_int))) (b_mul (x_any c (c_im 1) (c_int)) (x_any c (c_im 0) (c_int)))))
abbrev nn__law_edges : List Str := ["_law_triangles", "_law_found", "_law_a", "_law_b", "_law_c", "_law_pair"]
def n__law_edges : PEnv → M (Fl × PEnv) := seqM (sV 1 (vF (fL (mN)))) (seqM (sFor (iSq (getI 0)) (gTup' (gCons' (gN 2) (gCons' (gN 3) (gCons' (gN 4) (gNil'))))) (sFor (iSq (mF (fL (mC (mL mkTup (mC (mL (arg2 fun a b => lift (minO a b)) (mC (getI 2) (mC (getI 3) mN))) (mC (mL (arg2 fun a b => lift (maxO a b)) (mC (getI 2) (mC (getI 3) mN))) (mN)))) (mC (mL mkTup (mC (mL (arg2 fun a b => lift (minO a b)) (mC (getI 3) (mC (getI 4) mN))) (mC (mL (arg2 fun a b => lift (maxO a b)) (mC (getI 3) (mC (getI 4) mN))) (mN)))) (mC (mL mkTup (mC (mL (arg2 fun a b => lift (minO a b)) (mC (getI 4) (mC (getI 2) mN))) (mC (mL (arg2 fun a b => lift (maxO a b)) (mC (getI 4) (mC (getI 2) mN))) (mN)))) (mN))))))) (gN 5) (sIf (mT (mB ninAny (getI 5) (getS 1))) (appM 1 (getI 5)) (sNil)))) (sFz 1 (sR (mF (fA (fun d => lift (sortAO d)) (getI 1))))))
def F__law_edges : List D → M D := runF 6 n__law_edges
theorem sc__law_edges : FnScope nn__law_edges ps__law_edges dd__law_edges.scope := ⟨rfl, rfl, rfl, by decide +kernel, rfl, by decide +kernel, by decide +kernel⟩
theorem ok__law_edges {P : Program} {w : World} {K : PySem.W.Frag} {mg : Str → Option Value} {base : Heap} {C : Str → Addr} (T : Txt P w K mg base C)  {f : Addr} {fd : FuncData} (D : FunD K dd__law_edges.name dd__law_edges.qual dd__law_edges.params dd__law_edges.body dd__law_edges.scope [] [] f fd) (hm : mg dd__law_edges.name = some (.ref f)) : Fn P w K mg base C dd__law_edges ps__law_edges 1 F__law_edges := by
  refine ⟨f, fd, D, hm, D.bindsN (fun _ _ _ _ _ _ us hl => by
    obtain ⟨a0, rfl⟩ := len1 hl
    kernel_rfl), ok_def (d := dd__law_edges) (N := nn__law_edges) (ps := ps__law_edges) (n := n__law_edges) D sc__law_edges (fun E hK hC cdv A st s H W c hp => ?_)⟩
  subst hC
  exact s_cons (s_setV c 1 (CF.cv (f_lst (a_nil)))) (s_cons (s_for c hp (i_seq c (c_im 0)) (y_tup c (y_cons (y_name c 2) (y_cons (y_name c 3) (y_cons (y_name c 4) (y_nil)))) (len_cons (len_cons (len_cons len_nil)))) (s_one (s_for c hp (i_seq c (CF.ce (f_lst (a_cons (c_tup (a_cons (g_min2 c T.min (c_im 2) (c_im 3)) (a_cons (g_max2 c T.max (c_im 2) (c_im 3)) (a_nil)))) (a_cons (c_tup (a_cons (g_min2 c T.min (c_im 3) (c_im 4)) (a_cons (g_max2 c T.max (c_im 3) (c_im 4)) (a_nil)))) (a_cons (c_tup (a_cons (g_min2 c T.min (c_im 4) (c_im 2)) (a_cons (g_max2 c T.max (c_im 4) (c_im 2)) (a_nil)))) (a_nil))))))) (y_name c 5) (s_one (s_if (t_ninA c (c_im 5) (c_sh 1)) (s_one (s_append c 1 (c_im 5))) (s_nil)))))) (s_frz 1 (s_one (s_ret (CF.ce (g_sortA c T.sorted (c_im 1)))))))
abbrev nn__law_lots : List Str := ["_law_many", "_law_pairs", "_law_found", "_law_met", "_law_first", "_law_lot", "_law_turn", "_law_one", "_law_other"]
def n__law_lots : PEnv → M (Fl × PEnv) := seqM (sP2 2 3 (vF (fL (mN))) (vD false (dNew))) (seqM (sFor (iR1 (getI 0)) (gN 4) (seqM (sIf (mT (mB inAny (getI 4) (getS 3))) (sCt) (sNil)) (seqM (sV 5 (vF (fL (mC (getI 4) (mN))))) (seqM (dputM 3 (mk1 (.bl true)) (getI 4)) (seqM (sFor (iR1 (getI 0)) (gN 6) (sFor (iSq (getI 1)) (gTup' (gCons' (gN 7) (gCons' (gN 8) (gNil')))) (sIf (aAnd (mT (mB ltD (getI 6) (mL (arg1 lenD) (mC (getS 5) mN)))) (aAnd (mT (mB inAny (mB subAny (getS 5) (getI 6)) (mF (fL (mC (getI 7) (mC (getI 8) (mN))))))) (mT (mB ninAny (mB subD (mB addD (getI 7) (getI 8)) (mB subAny (getS 5) (getI 6))) (getS 3))))) (seqM (dputM 3 (mk1 (.bl true)) (mB subD (mB addD (getI 7) (getI 8)) (mB subAny (getS 5) (getI 6)))) (appM 5 (mB subD (mB addD (getI 7) (getI 8)) (mB subAny (getS 5) (getI 6))))) (sNil)))) (appM 2 (mL (arg1 fun d => lift (tupleO d)) (mC (mF (fA (fun d => lift (sortAO d)) (getS 5))) mN)))))))) (sFz 2 (sR (mL (arg1 fun d => lift (tupleO d)) (mC (getI 2) mN)))))
def F__law_lots : List D → M D := runF 9 n__law_lots
theorem sc__law_lots : FnScope nn__law_lots ps__law_lots dd__law_lots.scope := ⟨rfl, rfl, rfl, by decide +kernel, rfl, by decide +kernel, by decide +kernel⟩
theorem ok__law_lots {P : Program} {w : World} {K : PySem.W.Frag} {mg : Str → Option Value} {base : Heap} {C : Str → Addr} (T : Txt P w K mg base C)  {f : Addr} {fd : FuncData} (D : FunD K dd__law_lots.name dd__law_lots.qual dd__law_lots.params dd__law_lots.body dd__law_lots.scope [] [] f fd) (hm : mg dd__law_lots.name = some (.ref f)) : Fn P w K mg base C dd__law_lots ps__law_lots 1 F__law_lots := by
  refine ⟨f, fd, D, hm, D.bindsN (fun _ _ _ _ _ _ us hl => by
    obtain ⟨a0, a1, rfl⟩ := len2 hl
    kernel_rfl), ok_def (d := dd__law_lots) (N := nn__law_lots) (ps := ps__law_lots) (n := n__law_lots) D sc__law_lots (fun E hK hC cdv A st s H W c hp => ?_)⟩
  subst hC
  exact s_cons (s_par2 c 2 3 (CF.cv (f_lst (a_nil))) (CD.cv (d_newK))) (s_cons (s_for c hp (i_range1 T.range (c_im 0)) (y_name c 4) (s_cons (s_if (t_inA c (c_im 4) (c_sh 3)) (s_one (s_cont)) (s_nil)) (s_cons (s_setV c 5 (CF.cv (f_lst (a_cons (c_im 4) (a_nil))))) (s_cons (s_dput c 3 (c_bl) (c_im 4)) (s_cons (s_for c hp (i_range1 T.range (c_im 0)) (y_name c 6) (s_one (s_for c hp (i_seq c (c_im 1)) (y_tup c (y_cons (y_name c 7) (y_cons (y_name c 8) (y_nil))) (len_cons (len_cons len_nil))) (s_one (s_if (CW.ct (w_and (t_lt (c_im 6) (g_len c T.len (c_sh 5))) (w_and (t_inA c (x_any c (c_sh 5) (c_im 6)) (CF.ce (f_lst (a_cons (c_im 7) (a_cons (c_im 8) (a_nil)))))) (w_and1 (t_ninA c (b_sub (b_add c (c_im 7) (c_im 8)) (x_any c (c_sh 5) (c_im 6))) (c_sh 3)))))) (s_cons (s_dput c 3 (c_bl) (b_sub (b_add c (c_im 7) (c_im 8)) (x_any c (c_sh 5) (c_im 6)))) (s_one (s_append c 5 (b_sub (b_add c (c_im 7) (c_im 8)) (x_any c (c_sh 5) (c_im 6)))))) (s_nil)))))) (s_one (s_append c 2 (g_tuple c T.tuple (CF.ce (g_sortA c T.sorted (c_sh 5))))))))))) (s_frz 2 (s_one (s_ret (g_tuple c T.tuple (c_im 2))))))
abbrev nn_plus : List Str := ["one", "other"]
def n_plus : PEnv → M (Fl × PEnv) := sR (mL (callM ps_fraction.length F_fraction) (mC (mB addD (mB mulD (mB subAny (getI 0) (mk1 (.int 0))) (mB subAny (getI 1) (mk1 (.int 1)))) (mB mulD (mB subAny (getI 1) (mk1 (.int 0))) (mB subAny (getI 0) (mk1 (.int 1))))) (mC (mB mulD (mB subAny (getI 0) (mk1 (.int 1))) (mB subAny (getI 1) (mk1 (.int 1)))) (mN))))
def F_plus : List D → M D := runF 2 n_plus
theorem sc_plus : FnScope nn_plus ps_plus dd_plus.scope := ⟨rfl, rfl, rfl, by decide +kernel, rfl, by decide +kernel, by decide +kernel⟩
theorem ok_plus {P : Program} {w : World} {K : PySem.W.Frag} {mg : Str → Option Value} {base : Heap} {C : Str → Addr} (T : Txt P w K mg base C) (G_fraction : Fn P w K mg base C dd_fraction ps_fraction 1 F_fraction) {f : Addr} {fd : FuncData} (D : FunD K dd_plus.name dd_plus.qual dd_plus.params dd_plus.body dd_plus.scope [] [] f fd) (hm : mg dd_plus.name = some (.ref f)) : Fn P w K mg base C dd_plus ps_plus 2 F_plus := by
  refine ⟨f, fd, D, hm, D.bindsN (fun _ _ _ _ _ _ us hl => by
    obtain ⟨a0, a1, rfl⟩ := len2 hl
    kernel_rfl), ok_def (d := dd_plus) (N := nn_plus) (ps := ps_plus) (n := n_plus) D sc_plus (fun E hK hC cdv A st s H W c hp => ?_)⟩
  subst hC
  exact s_one (s_ret (c_call c G_fraction (a_cons (b_add c (b_mul (x_any c (c_im 0) (c_int)) (x_any c (c_im 1) (c_int))) (b_mul (x_any c (c_im 1) (c_int)) (x_any c (c_im 0) (c_int)))) (a_cons (b_mul (x_any c (c_im 0) (c_int)) (x_any c (c_im 1) (c_int))) (a_nil)))))
abbrev nn_minus : List Str := ["one", "other"]
def n_minus : PEnv → M (Fl × PEnv) := sR (mL (callM ps_fraction.length F_fraction) (mC (mB subD (mB mulD (mB subAny (getI 0) (mk1 (.int 0))) (mB subAny (getI 1) (mk1 (.int 1)))) (mB mulD (mB subAny (getI 1) (mk1 (.int 0))) (mB subAny (getI 0) (mk1 (.int 1))))) (mC (mB mulD (mB subAny (getI 0) (mk1 (.int 1))) (mB subAny (getI 1) (mk1 (.int 1)))) (mN))))
def F_minus : List D → M D := runF 2 n_minus
theorem sc_minus : FnScope nn_minus ps_minus dd_minus.scope := ⟨rfl, rfl, rfl, by decide +kernel, rfl, by decide +kernel, by decide +kernel⟩
theorem ok_minus {P : Program} {w : World} {K : PySem.W.Frag} {mg : Str → Option Value} {base : Heap} {C : Str → Addr} (T : Txt P w K mg base C) (G_fraction : Fn P w K mg base C dd_fraction ps_fraction 1 F_fraction) {f : Addr} {fd : FuncData} (D : FunD K dd_minus.name dd_minus.qual dd_minus.params dd_minus.body dd_minus.scope [] [] f fd) (hm : mg dd_minus.name = some (.ref f)) : Fn P w K mg base C dd_minus ps_minus 2 F_minus := by
  refine ⟨f, fd, D, hm, D.bindsN (fun _ _ _ _ _ _ us hl => by
    obtain ⟨a0, a1, rfl⟩ := len2 hl
    kernel_rfl), ok_def (d := dd_minus) (N := nn_minus) (ps := ps_minus) (n := n_minus) D sc_minus (fun E hK hC cdv A st s H W c hp => ?_)⟩
  subst hC
  exact s_one (s_ret (c_call c G_fraction (a_cons (b_sub (b_mul (x_any c (c_im 0) (c_int)) (x_any c (c_im 1) (c_int))) (b_mul (x_any c (c_im 1) (c_int)) (x_any c (c_im 0) (c_int)))) (a_cons (b_mul (x_any c (c_im 0) (c_int)) (x_any c (c_im 1) (c_int))) (a_nil)))))
abbrev nn_times : List Str := ["one", "other"]
def n_times : PEnv → M (Fl × PEnv) := sR (mL (callM ps_fraction.length F_fraction) (mC (mB mulD (mB subAny (getI 0) (mk1 (.int 0))) (mB subAny (getI 1) (mk1 (.int 0)))) (mC (mB mulD (mB subAny (getI 0) (mk1 (.int 1))) (mB subAny (getI 1) (mk1 (.int 1)))) (mN))))
def F_times : List D → M D := runF 2 n_times
theorem sc_times : FnScope nn_times ps_times dd_times.scope := ⟨rfl, rfl, rfl, by decide +kernel, rfl, by decide +kernel, by decide +kernel⟩
theorem ok_times {P : Program} {w : World} {K : PySem.W.Frag} {mg : Str → Option Value} {base : Heap} {C : Str → Addr} (T : Txt P w K mg base C) (G_fraction : Fn P w K mg base C dd_fraction ps_fraction 1 F_fraction) {f : Addr} {fd : FuncData} (D : FunD K dd_times.name dd_times.qual dd_times.params dd_times.body dd_times.scope [] [] f fd) (hm : mg dd_times.name = some (.ref f)) : Fn P w K mg base C dd_times ps_times 2 F_times := by
  refine ⟨f, fd, D, hm, D.bindsN (fun _ _ _ _ _ _ us hl => by
    obtain ⟨a0, a1, rfl⟩ := len2 hl
    kernel_rfl), ok_def (d := dd_times) (N := nn_times) (ps := ps_times) (n := n_times) D sc_times (fun E hK hC cdv A st s H W c hp => ?_)⟩
  subst hC
  exact s_one (s_ret (c_call c G_fraction (a_cons (b_mul (x_any c (c_im 0) (c_int)) (x_any c (c_im 1) (c_int))) (a_cons (b_mul (x_any c (c_im 0) (c_int)) (x_any c (c_im 1) (c_int))) (a_nil)))))
abbrev nn_over : List Str := ["one", "other"]
def n_over : PEnv → M (Fl × PEnv) := sR (mL (callM ps_fraction.length F_fraction) (mC (mB mulD (mB subAny (getI 0) (mk1 (.int 0))) (mB subAny (getI 1) (mk1 (.int 1)))) (mC (mB mulD (mB subAny (getI 0) (mk1 (.int 1))) (mB subAny (getI 1) (mk1 (.int 0)))) (mN))))
def F_over : List D → M D := runF 2 n_over
theorem sc_over : FnScope nn_over ps_over dd_over.scope := ⟨rfl, rfl, rfl, by decide +kernel, rfl, by decide +kernel, by decide +kernel⟩
theorem ok_over {P : Program} {w : World} {K : PySem.W.Frag} {mg : Str → Option Value} {base : Heap} {C : Str → Addr} (T : Txt P w K mg base C) (G_fraction : Fn P w K mg base C dd_fraction ps_fraction 1 F_fraction) {f : Addr} {fd : FuncData} (D : FunD K dd_over.name dd_over.qual dd_over.params dd_over.body dd_over.scope [] [] f fd) (hm : mg dd_over.name = some (.ref f)) : Fn P w K mg base C dd_over ps_over 2 F_over := by
  refine ⟨f, fd, D, hm, D.bindsN (fun _ _ _ _ _ _ us hl => by
    obtain ⟨a0, a1, rfl⟩ := len2 hl
    kernel_rfl), ok_def (d := dd_over) (N := nn_over) (ps := ps_over) (n := n_over) D sc_over (fun E hK hC cdv A st s H W c hp => ?_)⟩
  subst hC
  exact s_one (s_ret (c_call c G_fraction (a_cons (b_mul (x_any c (c_im 0) (c_int)) (x_any c (c_im 1) (c_int))) (a_cons (b_mul (x_any c (c_im 0) (c_int)) (x_any c (c_im 1) (c_int))) (a_nil)))))
abbrev nn_ways_of : List Str := ["mesh", "found", "number", "triangle", "way"]
def n_ways_of : PEnv → M (Fl × PEnv) := seqM (sV 1 (vD true (dNew))) (seqM (sFor (iEn (mFld "Mesh" "triangles" (getI 0))) (gTup' (gCons' (gN 2) (gCons' (gN 3) (gNil')))) (sFor (iSq (mL (callM ps_ways_round.length F_ways_round) (mC (getI 3) (mN)))) (gN 4) (dputM 1 (getI 2) (getI 4)))) (sFz 1 (sR (getI 1))))
def F_ways_of : List D → M D := runF 5 n_ways_of
theorem sc_ways_of : FnScope nn_ways_of ps_ways_of dd_ways_of.scope := ⟨rfl, rfl, rfl, by decide +kernel, rfl, by decide +kernel, by decide +kernel⟩
theorem ok_ways_of {P : Program} {w : World} {K : PySem.W.Frag} {mg : Str → Option Value} {base : Heap} {C : Str → Addr} (T : Txt P w K mg base C) (G_ways_round : Fn P w K mg base C dd_ways_round ps_ways_round 1 F_ways_round) {f : Addr} {fd : FuncData} (D : FunD K dd_ways_of.name dd_ways_of.qual dd_ways_of.params dd_ways_of.body dd_ways_of.scope [] [] f fd) (hm : mg dd_ways_of.name = some (.ref f)) : Fn P w K mg base C dd_ways_of ps_ways_of 2 F_ways_of := by
  refine ⟨f, fd, D, hm, D.bindsN (fun _ _ _ _ _ _ us hl => by
    obtain ⟨a0, rfl⟩ := len1 hl
    kernel_rfl), ok_def (d := dd_ways_of) (N := nn_ways_of) (ps := ps_ways_of) (n := n_ways_of) D sc_ways_of (fun E hK hC cdv A st s H W c hp => ?_)⟩
  subst hC
  exact s_cons (s_setV c 1 (CD.cv (d_newT))) (s_cons (s_for c hp (i_enum c T.enumerate (c_fld "Mesh" T.cl_Mesh T.no_Mesh_triangles (c_im 0))) (y_tup c (y_cons (y_name c 2) (y_cons (y_name c 3) (y_nil))) (len_cons (len_cons len_nil))) (s_one (s_for c hp (i_seq c (c_call c G_ways_round (a_cons (c_im 3) (a_nil)))) (y_name c 4) (s_one (s_dput c 1 (c_im 2) (c_im 4)))))) (s_frz 1 (s_one (s_ret (c_im 1)))))
abbrev nn_is_high : List Str := ["field", "level", "number"]
def n_is_high : PEnv → M (Fl × PEnv) := sR (mB geD (mL (callM ps_compared.length F_compared) (mC (mB subAny (getI 0) (getI 2)) (mC (getI 1) (mN)))) (mk1 (.int 0)))
def F_is_high : List D → M D := runF 3 n_is_high
theorem sc_is_high : FnScope nn_is_high ps_is_high dd_is_high.scope := ⟨rfl, rfl, rfl, by decide +kernel, rfl, by decide +kernel, by decide +kernel⟩
theorem ok_is_high {P : Program} {w : World} {K : PySem.W.Frag} {mg : Str → Option Value} {base : Heap} {C : Str → Addr} (T : Txt P w K mg base C) (G_compared : Fn P w K mg base C dd_compared ps_compared 1 F_compared) {f : Addr} {fd : FuncData} (D : FunD K dd_is_high.name dd_is_high.qual dd_is_high.params dd_is_high.body dd_is_high.scope [] [] f fd) (hm : mg dd_is_high.name = some (.ref f)) : Fn P w K mg base C dd_is_high ps_is_high 2 F_is_high := by
  refine ⟨f, fd, D, hm, D.bindsN (fun _ _ _ _ _ _ us hl => by
    obtain ⟨a0, a1, a2, rfl⟩ := len3 hl
    kernel_rfl), ok_def (d := dd_is_high) (N := nn_is_high) (ps := ps_is_high) (n := n_is_high) D sc_is_high (fun E hK hC cdv A st s H W c hp => ?_)⟩
  subst hC
  exact s_one (s_ret (b_ge (c_call c G_compared (a_cons (x_any c (c_im 0) (c_im 2)) (a_cons (c_im 1) (a_nil)))) (c_int)))
abbrev nn__law_pick : List Str := ["_law_deal_here", "_law_some"]
def n__law_pick : PEnv → M (Fl × PEnv) := sR (mB subAny (getI 1) (mL (callM ps__law_draw.length F__law_draw) (mC (getI 0) (mC (mL (arg1 lenD) (mC (getI 1) mN)) (mN)))))
def F__law_pick : List D → M D := runF 2 n__law_pick
theorem sc__law_pick : FnScope nn__law_pick ps__law_pick dd__law_pick.scope := ⟨rfl, rfl, rfl, by decide +kernel, rfl, by decide +kernel, by decide +kernel⟩
theorem ok__law_pick {P : Program} {w : World} {K : PySem.W.Frag} {mg : Str → Option Value} {base : Heap} {C : Str → Addr} (T : Txt P w K mg base C) (G__law_draw : Fn P w K mg base C dd__law_draw ps__law_draw 1 F__law_draw) {f : Addr} {fd : FuncData} (D : FunD K dd__law_pick.name dd__law_pick.qual dd__law_pick.params dd__law_pick.body dd__law_pick.scope [] [] f fd) (hm : mg dd__law_pick.name = some (.ref f)) : Fn P w K mg base C dd__law_pick ps__law_pick 2 F__law_pick := by
  refine ⟨f, fd, D, hm, D.bindsN (fun _ _ _ _ _ _ us hl => by
    obtain ⟨a0, a1, rfl⟩ := len2 hl
    kernel_rfl), ok_def (d := dd__law_pick) (N := nn__law_pick) (ps := ps__law_pick) (n := n__law_pick) D sc__law_pick (fun E hK hC cdv A st s H W c hp => ?_)⟩
  subst hC
  exact s_one (s_ret (x_any c (c_im 1) (c_call c G__law_draw (a_cons (c_im 0) (a_cons (g_len c T.len (c_im 1)) (a_nil))))))
abbrev nn__law_whole : List Str := ["_law_triangles", "_law_ways_here", "_law_begun", "_law_one", "_law_other", "_law_met", "_law_late", "_law_turn", "_law_a", "_law_b", "_law_c", "_law_way", "_law_at"]
def n__law_whole : PEnv → M (Fl × PEnv) := seqM (sP2 1 2 (vE (mL (callM ps__law_ways.length F__law_ways) (mC (getI 0) (mN)))) (vD false (dNew))) (seqM (sFor (iSq (mF (fA (fun d => lift (sortAO d)) (getI 1)))) (gTup' (gCons' (gN 3) (gCons' (gN 4) (gNil')))) (sIf (mT (mB ninAny (mL mkTup (mC (getI 4) (mC (getI 3) (mN)))) (getI 1))) (seqM (sIf (mT (mB inAny (getI 3) (getS 2))) (sR (mk1 (.bl false))) (sNil)) (dputM 2 (getI 4) (getI 3))) (sNil))) (seqM (sP2 5 6 (vD false (fun _ => pure [(.int 0, .bl true)])) (vF (fL (mC (mk1 (.int 0)) (mN))))) (seqM (sFor (iR1 (mL (arg1 lenD) (mC (getI 0) mN))) (gN 7) (seqM (sIf (mT (mB geD (getI 7) (mL (arg1 lenD) (mC (getS 6) mN)))) (sR (mk1 (.bl false))) (sNil)) (seqM (sA (gTup' (gCons' (gN 8) (gCons' (gN 9) (gCons' (gN 10) (gNil'))))) (mB subAny (getI 0) (mB subAny (getS 6) (getI 7)))) (sFor (iSq (mF (fL (mC (mL mkTup (mC (getI 9) (mC (getI 8) (mN)))) (mC (mL mkTup (mC (getI 10) (mC (getI 9) (mN)))) (mC (mL mkTup (mC (getI 8) (mC (getI 10) (mN)))) (mN))))))) (gN 11) (seqM (sV 12 (vE (mGet (getI 1) (getI 11) (mU negD (mk1 (.int 1)))))) (sIf (aAnd (mT (mB geD (getI 12) (mk1 (.int 0)))) (mT (mB ninAny (getI 12) (getS 5)))) (seqM (dputM 5 (mk1 (.bl true)) (getI 12)) (appM 6 (getI 12))) (sNil))))))) (sR (mk1 (.bl true))))))
def F__law_whole : List D → M D := runF 13 n__law_whole
theorem sc__law_whole : FnScope nn__law_whole ps__law_whole dd__law_whole.scope := ⟨rfl, rfl, rfl, by decide +kernel, rfl, by decide +kernel, by decide +kernel⟩
theorem ok__law_whole {P : Program} {w : World} {K : PySem.W.Frag} {mg : Str → Option Value} {base : Heap} {C : Str → Addr} (T : Txt P w K mg base C) (G__law_ways : Fn P w K mg base C dd__law_ways ps__law_ways 1 F__law_ways) {f : Addr} {fd : FuncData} (D : FunD K dd__law_whole.name dd__law_whole.qual dd__law_whole.params dd__law_whole.body dd__law_whole.scope [] [] f fd) (hm : mg dd__law_whole.name = some (.ref f)) : Fn P w K mg base C dd__law_whole ps__law_whole 2 F__law_whole := by
  refine ⟨f, fd, D, hm, D.bindsN (fun _ _ _ _ _ _ us hl => by
    obtain ⟨a0, rfl⟩ := len1 hl
    kernel_rfl), ok_def (d := dd__law_whole) (N := nn__law_whole) (ps := ps__law_whole) (n := n__law_whole) D sc__law_whole (fun E hK hC cdv A st s H W c hp => ?_)⟩
  subst hC
  exact s_cons (s_par2 c 1 2 (CE.cv (c_call c G__law_ways (a_cons (c_im 0) (a_nil)))) (CD.cv (d_newK))) (s_cons (s_for c hp (i_seq c (CF.ce (g_sortA c T.sorted (c_im 1)))) (y_tup c (y_cons (y_name c 3) (y_cons (y_name c 4) (y_nil))) (len_cons (len_cons len_nil))) (s_one (s_if (t_ninA c (c_tup (a_cons (c_im 4) (a_cons (c_im 3) (a_nil)))) (c_im 1)) (s_cons (s_if (t_inA c (c_im 3) (c_sh 2)) (s_one (s_ret (c_bl))) (s_nil)) (s_one (s_dput c 2 (c_im 4) (c_im 3)))) (s_nil)))) (s_cons (s_par2 c 5 6 (CD.cv (d_one)) (CF.cv (f_lst (a_cons (c_int) (a_nil))))) (s_cons (s_for c hp (i_range1 T.range (g_len c T.len (c_im 0))) (y_name c 7) (s_cons (s_if (t_ge (c_im 7) (g_len c T.len (c_sh 6))) (s_one (s_ret (c_bl))) (s_nil)) (s_cons (s_asg (x_any c (c_im 0) (x_any c (c_sh 6) (c_im 7))) (y_tup c (y_cons (y_name c 8) (y_cons (y_name c 9) (y_cons (y_name c 10) (y_nil)))) (len_cons (len_cons (len_cons len_nil))))) (s_one (s_for c hp (i_seq c (CF.ce (f_lst (a_cons (c_tup (a_cons (c_im 9) (a_cons (c_im 8) (a_nil)))) (a_cons (c_tup (a_cons (c_im 10) (a_cons (c_im 9) (a_nil)))) (a_cons (c_tup (a_cons (c_im 8) (a_cons (c_im 10) (a_nil)))) (a_nil))))))) (y_name c 11) (s_cons (s_setV c 12 (CE.cv (c_get c (c_im 1) (c_im 11) (b_neg (c_int))))) (s_one (s_if (CW.ct (w_and (t_ge (c_im 12) (c_int)) (w_and1 (t_ninA c (c_im 12) (c_sh 5))))) (s_cons (s_dput c 5 (c_bl) (c_im 12)) (s_one (s_append c 6 (c_im 12)))) (s_nil))))))))) (s_one (s_ret (c_bl))))))
abbrev nn__law_ringed : List Str := ["_law_deal_here", "_law_many", "_law_slant", "_law_spots", "_law_points", "_law_triangles", "_law_x", "_law_y"]
def n__law_ringed : PEnv → M (Fl × PEnv) := seqM (sPT [2, 3] (vC (vE (mB subD (mL (callM ps__law_draw.length F__law_draw) (mC (getI 0) (mC (mk1 (.int 5)) (mN)))) (mk1 (.int 2)))) (vC (vE (mF (fL (mC (mL mkTup (mC (mk1 (.int 0)) (mC (mk1 (.int 0)) (mN)))) (mC (mL mkTup (mC (mk1 (.int 24)) (mC (mk1 (.int 0)) (mN)))) (mC (mL mkTup (mC (mk1 (.int 0)) (mC (mk1 (.int 24)) (mN)))) (mC (mL mkTup (mC (mk1 (.int 24)) (mC (mk1 (.int 24)) (mN)))) (mN)))))))) (vN)))) (seqM (sC 3 (blkM [6, 7] (iSq (getI 3)) (gTup' (gCons' (gN 6) (gCons' (gN 7) (gNil')))) (aTrue) (mL mkTup (mC (mB subD (mB addD (getI 6) (mL (callM ps__law_draw.length F__law_draw) (mC (getI 0) (mC (mk1 (.int 3)) (mN))))) (mk1 (.int 1))) (mC (mB subD (mB addD (getI 7) (mL (callM ps__law_draw.length F__law_draw) (mC (getI 0) (mC (mk1 (.int 3)) (mN))))) (mk1 (.int 1))) (mN)))))) (seqM (sV 4 (vE (mB addD (mCut (getI 3) (oN) (oS (mk1 (.int 3)))) (mF (fL (mC (mL mkTup (mC (mk1 (.int 5)) (mC (mk1 (.int 5)) (mN)))) (mC (mL mkTup (mC (mk1 (.int 10)) (mC (mk1 (.int 5)) (mN)))) (mC (mL mkTup (mC (mk1 (.int 5)) (mC (mk1 (.int 10)) (mN)))) (mN))))))))) (seqM (sV 5 (vE (mF (fL (mC (mL mkTup (mC (mk1 (.int 0)) (mC (mk1 (.int 1)) (mC (mk1 (.int 4)) (mN))))) (mC (mL mkTup (mC (mk1 (.int 0)) (mC (mk1 (.int 4)) (mC (mk1 (.int 3)) (mN))))) (mC (mL mkTup (mC (mk1 (.int 1)) (mC (mk1 (.int 2)) (mC (mk1 (.int 5)) (mN))))) (mC (mL mkTup (mC (mk1 (.int 1)) (mC (mk1 (.int 5)) (mC (mk1 (.int 4)) (mN))))) (mC (mL mkTup (mC (mk1 (.int 0)) (mC (mk1 (.int 3)) (mC (mk1 (.int 2)) (mN))))) (mC (mL mkTup (mC (mk1 (.int 2)) (mC (mk1 (.int 3)) (mC (mk1 (.int 5)) (mN))))) (mN))))))))))) (seqM (sIf (mT (mB eqD (getI 1) (mk1 (.int 2)))) (seqM (sV 4 (vE (mB addD (getI 4) (mF (fL (mC (mB subAny (getI 3) (mk1 (.int 3))) (mC (mL mkTup (mC (mk1 (.int 19)) (mC (mk1 (.int 19)) (mN)))) (mC (mL mkTup (mC (mk1 (.int 14)) (mC (mk1 (.int 19)) (mN)))) (mC (mL mkTup (mC (mk1 (.int 19)) (mC (mk1 (.int 14)) (mN)))) (mN)))))))))) (sV 5 (vE (mB addD (getI 5) (mF (fL (mC (mL mkTup (mC (mk1 (.int 6)) (mC (mk1 (.int 2)) (mC (mk1 (.int 8)) (mN))))) (mC (mL mkTup (mC (mk1 (.int 6)) (mC (mk1 (.int 8)) (mC (mk1 (.int 7)) (mN))))) (mC (mL mkTup (mC (mk1 (.int 2)) (mC (mk1 (.int 1)) (mC (mk1 (.int 9)) (mN))))) (mC (mL mkTup (mC (mk1 (.int 2)) (mC (mk1 (.int 9)) (mC (mk1 (.int 8)) (mN))))) (mC (mL mkTup (mC (mk1 (.int 6)) (mC (mk1 (.int 7)) (mC (mk1 (.int 1)) (mN))))) (mC (mL mkTup (mC (mk1 (.int 1)) (mC (mk1 (.int 7)) (mC (mk1 (.int 9)) (mN))))) (mN))))))))))))) (sNil)) (sR (mL mkTup (mC (mF (blkM [6, 7] (iSq (getI 4)) (gTup' (gCons' (gN 6) (gCons' (gN 7) (gNil')))) (aTrue) (mL mkTup (mC (mB addD (getI 6) (mB mulD (getI 2) (getI 7))) (mC (getI 7) (mN)))))) (mC (getI 5) (mN)))))))))
def F__law_ringed : List D → M D := runF 8 n__law_ringed
theorem sc__law_ringed : FnScope nn__law_ringed ps__law_ringed dd__law_ringed.scope := ⟨rfl, rfl, rfl, by decide +kernel, rfl, by decide +kernel, by decide +kernel⟩
theorem ok__law_ringed {P : Program} {w : World} {K : PySem.W.Frag} {mg : Str → Option Value} {base : Heap} {C : Str → Addr} (T : Txt P w K mg base C) (G__law_draw : Fn P w K mg base C dd__law_draw ps__law_draw 1 F__law_draw) {f : Addr} {fd : FuncData} (D : FunD K dd__law_ringed.name dd__law_ringed.qual dd__law_ringed.params dd__law_ringed.body dd__law_ringed.scope [] [] f fd) (hm : mg dd__law_ringed.name = some (.ref f)) : Fn P w K mg base C dd__law_ringed ps__law_ringed 2 F__law_ringed := by
  refine ⟨f, fd, D, hm, D.bindsN (fun _ _ _ _ _ _ us hl => by
    obtain ⟨a0, a1, rfl⟩ := len2 hl
    kernel_rfl), ok_def (d := dd__law_ringed) (N := nn__law_ringed) (ps := ps__law_ringed) (n := n__law_ringed) D sc__law_ringed (fun E hK hC cdv A st s H W c hp => ?_)⟩
  subst hC
  exact s_cons (s_parT c (va_cons (CE.cv (b_sub (c_call c G__law_draw (a_cons (c_im 0) (a_cons (c_int) (a_nil)))) (c_int))) (va_cons (CE.cv (CF.ce (f_lst (a_cons (c_tup (a_cons (c_int) (a_cons (c_int) (a_nil)))) (a_cons (c_tup (a_cons (c_int) (a_cons (c_int) (a_nil)))) (a_cons (c_tup (a_cons (c_int) (a_cons (c_int) (a_nil)))) (a_cons (c_tup (a_cons (c_int) (a_cons (c_int) (a_nil)))) (a_nil)))))))) (va_nil))) (n_cons c 2 (n_cons c 3 (n_nil)))) (s_cons (s_setC c 3 [("_law_x", 6), ("_law_y", 7)] (i_seq c (c_im 3)) (by rfl) (by decide) (fun s1 H1 a1 l1 p1 => y_tup (c.blk s1 H1 l1 a1 p1) (y_cons (y_name (c.blk s1 H1 l1 a1 p1) 6) (y_cons (y_name (c.blk s1 H1 l1 a1 p1) 7) (y_nil))) (len_cons (len_cons len_nil))) (fun s1 H1 a1 l1 p1 => q_nil) (fun s1 H1 a1 l1 p1 => c_tup (a_cons (b_sub (b_add (c.blk s1 H1 l1 a1 p1) (c_im 6) (c_call (c.blk s1 H1 l1 a1 p1) G__law_draw (a_cons (c_im 0) (a_cons (c_int) (a_nil))))) (c_int)) (a_cons (b_sub (b_add (c.blk s1 H1 l1 a1 p1) (c_im 7) (c_call (c.blk s1 H1 l1 a1 p1) G__law_draw (a_cons (c_im 0) (a_cons (c_int) (a_nil))))) (c_int)) (a_nil))))) (s_cons (s_setV c 4 (CE.cv (b_add c (c_cut c (c_im 3) (o_none) (o_some (c_int))) (CF.ce (f_lst (a_cons (c_tup (a_cons (c_int) (a_cons (c_int) (a_nil)))) (a_cons (c_tup (a_cons (c_int) (a_cons (c_int) (a_nil)))) (a_cons (c_tup (a_cons (c_int) (a_cons (c_int) (a_nil)))) (a_nil))))))))) (s_cons (s_setV c 5 (CE.cv (CF.ce (f_lst (a_cons (c_tup (a_cons (c_int) (a_cons (c_int) (a_cons (c_int) (a_nil))))) (a_cons (c_tup (a_cons (c_int) (a_cons (c_int) (a_cons (c_int) (a_nil))))) (a_cons (c_tup (a_cons (c_int) (a_cons (c_int) (a_cons (c_int) (a_nil))))) (a_cons (c_tup (a_cons (c_int) (a_cons (c_int) (a_cons (c_int) (a_nil))))) (a_cons (c_tup (a_cons (c_int) (a_cons (c_int) (a_cons (c_int) (a_nil))))) (a_cons (c_tup (a_cons (c_int) (a_cons (c_int) (a_cons (c_int) (a_nil))))) (a_nil))))))))))) (s_cons (s_if (t_eq c (c_im 1) (c_int)) (s_cons (s_setV c 4 (CE.cv (b_add c (c_im 4) (CF.ce (f_lst (a_cons (x_any c (c_im 3) (c_int)) (a_cons (c_tup (a_cons (c_int) (a_cons (c_int) (a_nil)))) (a_cons (c_tup (a_cons (c_int) (a_cons (c_int) (a_nil)))) (a_cons (c_tup (a_cons (c_int) (a_cons (c_int) (a_nil)))) (a_nil)))))))))) (s_one (s_setV c 5 (CE.cv (b_add c (c_im 5) (CF.ce (f_lst (a_cons (c_tup (a_cons (c_int) (a_cons (c_int) (a_cons (c_int) (a_nil))))) (a_cons (c_tup (a_cons (c_int) (a_cons (c_int) (a_cons (c_int) (a_nil))))) (a_cons (c_tup (a_cons (c_int) (a_cons (c_int) (a_cons (c_int) (a_nil))))) (a_cons (c_tup (a_cons (c_int) (a_cons (c_int) (a_cons (c_int) (a_nil))))) (a_cons (c_tup (a_cons (c_int) (a_cons (c_int) (a_cons (c_int) (a_nil))))) (a_cons (c_tup (a_cons (c_int) (a_cons (c_int) (a_cons (c_int) (a_nil))))) (a_nil)))))))))))))) (s_nil)) (s_one (s_ret (c_tup (a_cons (CF.ce (f_comp c [("_law_x", 6), ("_law_y", 7)] (i_seq c (c_im 4)) (by rfl) (by decide) (fun s1 H1 a1 l1 p1 => y_tup (c.blk s1 H1 l1 a1 p1) (y_cons (y_name (c.blk s1 H1 l1 a1 p1) 6) (y_cons (y_name (c.blk s1 H1 l1 a1 p1) 7) (y_nil))) (len_cons (len_cons len_nil))) (fun s1 H1 a1 l1 p1 => q_nil) (fun s1 H1 a1 l1 p1 => c_tup (a_cons (b_add (c.blk s1 H1 l1 a1 p1) (c_im 6) (b_mul (c_im 2) (c_im 7))) (a_cons (c_im 7) (a_nil)))))) (a_cons (c_im 5) (a_nil))))))))))
abbrev nn__law_shuffled : List Str := ["_law_deal_here", "_law_points", "_law_triangles", "_law_order", "_law_left", "_law_turn", "_law_known", "_law_at", "_law_number", "_law_a", "_law_b", "_law_c"]
def n__law_shuffled : PEnv → M (Fl × PEnv) := seqM (sP2 3 4 (vF (fL (mN))) (vF (fRg (mL (arg1 lenD) (mC (getI 1) mN))))) (seqM (sFor (iR1 (mL (arg1 lenD) (mC (getI 1) mN))) (gN 5) (appXM 3 (popM 4 (mL (callM ps__law_draw.length F__law_draw) (mC (getI 0) (mC (mL (arg1 lenD) (mC (getS 4) mN)) (mN))))))) (sFz 3 (seqM (sV 6 (vE (mD false (dDict (mF (blkM [7, 8] (iEn (getI 3)) (gTup' (gCons' (gN 7) (gCons' (gN 8) (gNil')))) (aTrue) (mL mkTup (mC (getI 8) (mC (getI 7) (mN)))))))))) (sR (mL mkTup (mC (mF (blkM [8] (iSq (getI 3)) (gN 8) (aTrue) (mB subAny (getI 1) (getI 8)))) (mC (mF (blkM [9, 10, 11] (iSq (getI 2)) (gTup' (gCons' (gN 9) (gCons' (gN 10) (gCons' (gN 11) (gNil'))))) (aTrue) (mL mkTupB (mC (mB subAny (getI 6) (getI 9)) (mC (mB subAny (getI 6) (getI 10)) (mC (mB subAny (getI 6) (getI 11)) (mN))))))) (mN))))))))
def F__law_shuffled : List D → M D := runF 12 n__law_shuffled
theorem sc__law_shuffled : FnScope nn__law_shuffled ps__law_shuffled dd__law_shuffled.scope := ⟨rfl, rfl, rfl, by decide +kernel, rfl, by decide +kernel, by decide +kernel⟩
theorem ok__law_shuffled {P : Program} {w : World} {K : PySem.W.Frag} {mg : Str → Option Value} {base : Heap} {C : Str → Addr} (T : Txt P w K mg base C) (G__law_draw : Fn P w K mg base C dd__law_draw ps__law_draw 1 F__law_draw) {f : Addr} {fd : FuncData} (D : FunD K dd__law_shuffled.name dd__law_shuffled.qual dd__law_shuffled.params dd__law_shuffled.body dd__law_shuffled.scope [] [] f fd) (hm : mg dd__law_shuffled.name = some (.ref f)) : Fn P w K mg base C dd__law_shuffled ps__law_shuffled 2 F__law_shuffled := by
  refine ⟨f, fd, D, hm, D.bindsN (fun _ _ _ _ _ _ us hl => by
    obtain ⟨a0, a1, a2, rfl⟩ := len3 hl
    kernel_rfl), ok_def (d := dd__law_shuffled) (N := nn__law_shuffled) (ps := ps__law_shuffled) (n := n__law_shuffled) D sc__law_shuffled (fun E hK hC cdv A st s H W c hp => ?_)⟩
  subst hC
  exact s_cons (s_par2 c 3 4 (CF.cv (f_lst (a_nil))) (CF.cv (g_lrange c T.list T.range (g_len c T.len (c_im 1))))) (s_cons (s_for c hp (i_range1 T.range (g_len c T.len (c_im 1))) (y_name c 5) (s_one (s_appendX c 3 (x_popAt c 4 (c_call c G__law_draw (a_cons (c_im 0) (a_cons (g_len c T.len (c_sh 4)) (a_nil)))))))) (s_frz 3 (s_cons (s_setV c 6 (CE.cv (CD.ce (g_dict c T.dict (CF.ce (f_comp c [("_law_at", 7), ("_law_number", 8)] (i_enum c T.enumerate (c_im 3)) (by rfl) (by decide) (fun s1 H1 a1 l1 p1 => y_tup (c.blk s1 H1 l1 a1 p1) (y_cons (y_name (c.blk s1 H1 l1 a1 p1) 7) (y_cons (y_name (c.blk s1 H1 l1 a1 p1) 8) (y_nil))) (len_cons (len_cons len_nil))) (fun s1 H1 a1 l1 p1 => q_nil) (fun s1 H1 a1 l1 p1 => c_tup (a_cons (c_im 8) (a_cons (c_im 7) (a_nil)))))))))) (s_one (s_ret (c_tup (a_cons (CF.ce (f_comp c [("_law_number", 8)] (i_seq c (c_im 3)) (by rfl) (by decide) (fun s1 H1 a1 l1 p1 => y_name (c.blk s1 H1 l1 a1 p1) 8) (fun s1 H1 a1 l1 p1 => q_nil) (fun s1 H1 a1 l1 p1 => x_any (c.blk s1 H1 l1 a1 p1) (c_im 1) (c_im 8)))) (a_cons (CF.ce (f_comp c [("_law_a", 9), ("_law_b", 10), ("_law_c", 11)] (i_seq c (c_im 2)) (by rfl) (by decide) (fun s1 H1 a1 l1 p1 => y_tup (c.blk s1 H1 l1 a1 p1) (y_cons (y_name (c.blk s1 H1 l1 a1 p1) 9) (y_cons (y_name (c.blk s1 H1 l1 a1 p1) 10) (y_cons (y_name (c.blk s1 H1 l1 a1 p1) 11) (y_nil)))) (len_cons (len_cons (len_cons len_nil)))) (fun s1 H1 a1 l1 p1 => q_nil) (fun s1 H1 a1 l1 p1 => c_tupB (a_cons (x_any (c.blk s1 H1 l1 a1 p1) (c_im 6) (c_im 9)) (a_cons (x_any (c.blk s1 H1 l1 a1 p1) (c_im 6) (c_im 10)) (a_cons (x_any (c.blk s1 H1 l1 a1 p1) (c_im 6) (c_im 11)) (a_nil))))))) (a_nil)))))))))
abbrev nn__law_point : List Str := ["_law_pair", "_law_bottom"]
def n__law_point : PEnv → M (Fl × PEnv) := sR (mL mkTup (mC (mL (callM ps__law_frac.length F__law_frac) (mC (mB subAny (getI 0) (mk1 (.int 0))) (mC (getI 1) (mN)))) (mC (mL (callM ps__law_frac.length F__law_frac) (mC (mB subAny (getI 0) (mk1 (.int 1))) (mC (getI 1) (mN)))) (mN))))
def F__law_point : List D → M D := runF 2 n__law_point
theorem sc__law_point : FnScope nn__law_point ps__law_point dd__law_point.scope := ⟨rfl, rfl, rfl, by decide +kernel, rfl, by decide +kernel, by decide +kernel⟩
theorem ok__law_point {P : Program} {w : World} {K : PySem.W.Frag} {mg : Str → Option Value} {base : Heap} {C : Str → Addr} (T : Txt P w K mg base C) (G__law_frac : Fn P w K mg base C dd__law_frac ps__law_frac 1 F__law_frac) {f : Addr} {fd : FuncData} (D : FunD K dd__law_point.name dd__law_point.qual dd__law_point.params dd__law_point.body dd__law_point.scope [] [] f fd) (hm : mg dd__law_point.name = some (.ref f)) : Fn P w K mg base C dd__law_point ps__law_point 2 F__law_point := by
  refine ⟨f, fd, D, hm, D.bindsN (fun _ _ _ _ _ _ us hl => by
    obtain ⟨a0, a1, rfl⟩ := len2 hl
    kernel_rfl), ok_def (d := dd__law_point) (N := nn__law_point) (ps := ps__law_point) (n := n__law_point) D sc__law_point (fun E hK hC cdv A st s H W c hp => ?_)⟩
  subst hC
  exact s_one (s_ret (c_tup (a_cons (c_call c G__law_frac (a_cons (x_any c (c_im 0) (c_int)) (a_cons (c_im 1) (a_nil)))) (a_cons (c_call c G__law_frac (a_cons (x_any c (c_im 0) (c_int)) (a_cons (c_im 1) (a_nil)))) (a_nil)))))
abbrev nn__law_plus : List Str := ["_law_one", "_law_other"]
def n__law_plus : PEnv → M (Fl × PEnv) := sR (mL (callM ps__law_frac.length F__law_frac) (mC (mB addD (mB mulD (mB subAny (getI 0) (mk1 (.int 0))) (mB subAny (getI 1) (mk1 (.int 1)))) (mB mulD (mB subAny (getI 1) (mk1 (.int 0))) (mB subAny (getI 0) (mk1 (.int 1))))) (mC (mB mulD (mB subAny (getI 0) (mk1 (.int 1))) (mB subAny (getI 1) (mk1 (.int 1)))) (mN))))
def F__law_plus : List D → M D := runF 2 n__law_plus
theorem sc__law_plus : FnScope nn__law_plus ps__law_plus dd__law_plus.scope := ⟨rfl, rfl, rfl, by decide +kernel, rfl, by decide +kernel, by decide +kernel⟩
theorem ok__law_plus {P : Program} {w : World} {K : PySem.W.Frag} {mg : Str → Option Value} {base : Heap} {C : Str → Addr} (T : Txt P w K mg base C) (G__law_frac : Fn P w K mg base C dd__law_frac ps__law_frac 1 F__law_frac) {f : Addr} {fd : FuncData} (D : FunD K dd__law_plus.name dd__law_plus.qual dd__law_plus.params dd__law_plus.body dd__law_plus.scope [] [] f fd) (hm : mg dd__law_plus.name = some (.ref f)) : Fn P w K mg base C dd__law_plus ps__law_plus 2 F__law_plus := by
  refine ⟨f, fd, D, hm, D.bindsN (fun _ _ _ _ _ _ us hl => by
    obtain ⟨a0, a1, rfl⟩ := len2 hl
    kernel_rfl), ok_def (d := dd__law_plus) (N := nn__law_plus) (ps := ps__law_plus) (n := n__law_plus) D sc__law_plus (fun E hK hC cdv A st s H W c hp => ?_)⟩
  subst hC
  exact s_one (s_ret (c_call c G__law_frac (a_cons (b_add c (b_mul (x_any c (c_im 0) (c_int)) (x_any c (c_im 1) (c_int))) (b_mul (x_any c (c_im 1) (c_int)) (x_any c (c_im 0) (c_int)))) (a_cons (b_mul (x_any c (c_im 0) (c_int)) (x_any c (c_im 1) (c_int))) (a_nil)))))
abbrev nn__law_less : List Str := ["_law_one", "_law_other"]
def n__law_less : PEnv → M (Fl × PEnv) := sR (mL (callM ps__law_frac.length F__law_frac) (mC (mB subD (mB mulD (mB subAny (getI 0) (mk1 (.int 0))) (mB subAny (getI 1) (mk1 (.int 1)))) (mB mulD (mB subAny (getI 1) (mk1 (.int 0))) (mB subAny (getI 0) (mk1 (.int 1))))) (mC (mB mulD (mB subAny (getI 0) (mk1 (.int 1))) (mB subAny (getI 1) (mk1 (.int 1)))) (mN))))
def F__law_less : List D → M D := runF 2 n__law_less
theorem sc__law_less : FnScope nn__law_less ps__law_less dd__law_less.scope := ⟨rfl, rfl, rfl, by decide +kernel, rfl, by decide +kernel, by decide +kernel⟩
theorem ok__law_less {P : Program} {w : World} {K : PySem.W.Frag} {mg : Str → Option Value} {base : Heap} {C : Str → Addr} (T : Txt P w K mg base C) (G__law_frac : Fn P w K mg base C dd__law_frac ps__law_frac 1 F__law_frac) {f : Addr} {fd : FuncData} (D : FunD K dd__law_less.name dd__law_less.qual dd__law_less.params dd__law_less.body dd__law_less.scope [] [] f fd) (hm : mg dd__law_less.name = some (.ref f)) : Fn P w K mg base C dd__law_less ps__law_less 2 F__law_less := by
  refine ⟨f, fd, D, hm, D.bindsN (fun _ _ _ _ _ _ us hl => by
    obtain ⟨a0, a1, rfl⟩ := len2 hl
    kernel_rfl), ok_def (d := dd__law_less) (N := nn__law_less) (ps := ps__law_less) (n := n__law_less) D sc__law_less (fun E hK hC cdv A st s H W c hp => ?_)⟩
  subst hC
  exact s_one (s_ret (c_call c G__law_frac (a_cons (b_sub (b_mul (x_any c (c_im 0) (c_int)) (x_any c (c_im 1) (c_int))) (b_mul (x_any c (c_im 1) (c_int)) (x_any c (c_im 0) (c_int)))) (a_cons (b_mul (x_any c (c_im 0) (c_int)) (x_any c (c_im 1) (c_int))) (a_nil)))))
abbrev nn__law_over : List Str := ["_law_one", "_law_other"]
def n__law_over : PEnv → M (Fl × PEnv) := sR (mL (callM ps__law_frac.length F__law_frac) (mC (mB mulD (mB subAny (getI 0) (mk1 (.int 0))) (mB subAny (getI 1) (mk1 (.int 1)))) (mC (mB mulD (mB subAny (getI 0) (mk1 (.int 1))) (mB subAny (getI 1) (mk1 (.int 0)))) (mN))))
def F__law_over : List D → M D := runF 2 n__law_over
theorem sc__law_over : FnScope nn__law_over ps__law_over dd__law_over.scope := ⟨rfl, rfl, rfl, by decide +kernel, rfl, by decide +kernel, by decide +kernel⟩
theorem ok__law_over {P : Program} {w : World} {K : PySem.W.Frag} {mg : Str → Option Value} {base : Heap} {C : Str → Addr} (T : Txt P w K mg base C) (G__law_frac : Fn P w K mg base C dd__law_frac ps__law_frac 1 F__law_frac) {f : Addr} {fd : FuncData} (D : FunD K dd__law_over.name dd__law_over.qual dd__law_over.params dd__law_over.body dd__law_over.scope [] [] f fd) (hm : mg dd__law_over.name = some (.ref f)) : Fn P w K mg base C dd__law_over ps__law_over 2 F__law_over := by
  refine ⟨f, fd, D, hm, D.bindsN (fun _ _ _ _ _ _ us hl => by
    obtain ⟨a0, a1, rfl⟩ := len2 hl
    kernel_rfl), ok_def (d := dd__law_over) (N := nn__law_over) (ps := ps__law_over) (n := n__law_over) D sc__law_over (fun E hK hC cdv A st s H W c hp => ?_)⟩
  subst hC
  exact s_one (s_ret (c_call c G__law_frac (a_cons (b_mul (x_any c (c_im 0) (c_int)) (x_any c (c_im 1) (c_int))) (a_cons (b_mul (x_any c (c_im 0) (c_int)) (x_any c (c_im 1) (c_int))) (a_nil)))))
abbrev nn__law_field : List Str := ["_law_deal_here", "_law_many", "_law_kind", "_law_found", "_law_turn"]
def n__law_field : PEnv → M (Fl × PEnv) := seqM (sP2 2 3 (vE (mL (callM ps__law_draw.length F__law_draw) (mC (getI 0) (mC (mk1 (.int 3)) (mN))))) (vF (fL (mN)))) (seqM (sFor (iR1 (getI 1)) (gN 4) (sIf (mT (mB eqD (getI 2) (mk1 (.int 0)))) (appM 3 (mL mkTup (mC (mL (callM ps__law_draw.length F__law_draw) (mC (getI 0) (mC (mk1 (.int 3)) (mN)))) (mC (mk1 (.int 1)) (mN))))) (sIf (mT (mB eqD (getI 2) (mk1 (.int 1)))) (appM 3 (mL (callM ps__law_frac.length F__law_frac) (mC (mB subD (mL (callM ps__law_draw.length F__law_draw) (mC (getI 0) (mC (mk1 (.int 9)) (mN)))) (mk1 (.int 4))) (mC (mB addD (mk1 (.int 1)) (mL (callM ps__law_draw.length F__law_draw) (mC (getI 0) (mC (mk1 (.int 2)) (mN))))) (mN))))) (appM 3 (mL (callM ps__law_frac.length F__law_frac) (mC (mB subD (mL (callM ps__law_draw.length F__law_draw) (mC (getI 0) (mC (mk1 (.int 41)) (mN)))) (mk1 (.int 20))) (mC (mB addD (mk1 (.int 1)) (mL (callM ps__law_draw.length F__law_draw) (mC (getI 0) (mC (mk1 (.int 4)) (mN))))) (mN)))))))) (sFz 3 (sR (mL (arg1 fun d => lift (tupleO d)) (mC (getI 3) mN)))))
def F__law_field : List D → M D := runF 5 n__law_field
theorem sc__law_field : FnScope nn__law_field ps__law_field dd__law_field.scope := ⟨rfl, rfl, rfl, by decide +kernel, rfl, by decide +kernel, by decide +kernel⟩
theorem ok__law_field {P : Program} {w : World} {K : PySem.W.Frag} {mg : Str → Option Value} {base : Heap} {C : Str → Addr} (T : Txt P w K mg base C) (G__law_draw : Fn P w K mg base C dd__law_draw ps__law_draw 1 F__law_draw) (G__law_frac : Fn P w K mg base C dd__law_frac ps__law_frac 1 F__law_frac) {f : Addr} {fd : FuncData} (D : FunD K dd__law_field.name dd__law_field.qual dd__law_field.params dd__law_field.body dd__law_field.scope [] [] f fd) (hm : mg dd__law_field.name = some (.ref f)) : Fn P w K mg base C dd__law_field ps__law_field 2 F__law_field := by
  refine ⟨f, fd, D, hm, D.bindsN (fun _ _ _ _ _ _ us hl => by
    obtain ⟨a0, a1, rfl⟩ := len2 hl
    kernel_rfl), ok_def (d := dd__law_field) (N := nn__law_field) (ps := ps__law_field) (n := n__law_field) D sc__law_field (fun E hK hC cdv A st s H W c hp => ?_)⟩
  subst hC
  exact s_cons (s_par2 c 2 3 (CE.cv (c_call c G__law_draw (a_cons (c_im 0) (a_cons (c_int) (a_nil))))) (CF.cv (f_lst (a_nil)))) (s_cons (s_for c hp (i_range1 T.range (c_im 1)) (y_name c 4) (s_one (s_if (t_eq c (c_im 2) (c_int)) (s_one (s_append c 3 (c_tup (a_cons (c_call c G__law_draw (a_cons (c_im 0) (a_cons (c_int) (a_nil)))) (a_cons (c_int) (a_nil)))))) (s_one (s_if (t_eq c (c_im 2) (c_int)) (s_one (s_append c 3 (c_call c G__law_frac (a_cons (b_sub (c_call c G__law_draw (a_cons (c_im 0) (a_cons (c_int) (a_nil)))) (c_int)) (a_cons (b_add c (c_int) (c_call c G__law_draw (a_cons (c_im 0) (a_cons (c_int) (a_nil))))) (a_nil)))))) (s_one (s_append c 3 (c_call c G__law_frac (a_cons (b_sub (c_call c G__law_draw (a_cons (c_im 0) (a_cons (c_int) (a_nil)))) (c_int)) (a_cons (b_add c (c_int) (c_call c G__law_draw (a_cons (c_im 0) (a_cons (c_int) (a_nil))))) (a_nil))))))))))) (s_frz 3 (s_one (s_ret (g_tuple c T.tuple (c_im 3))))))
abbrev nn__law_gates : List Str := ["_law_edges_here", "_law_field_here", "_law_level_here", "_law_found", "_law_one", "_law_other"]
def n__law_gates : PEnv → M (Fl × PEnv) := seqM (sV 3 (vF (fL (mN)))) (seqM (sFor (iSq (getI 0)) (gTup' (gCons' (gN 4) (gCons' (gN 5) (gNil')))) (sIf (mT (mB neD (mL (callM ps__law_below.length F__law_below) (mC (mB subAny (getI 1) (getI 4)) (mC (getI 2) (mN)))) (mL (callM ps__law_below.length F__law_below) (mC (mB subAny (getI 1) (getI 5)) (mC (getI 2) (mN)))))) (appM 3 (mIf (mT (mL (callM ps__law_below.length F__law_below) (mC (mB subAny (getI 1) (getI 4)) (mC (getI 2) (mN))))) (mL mkTup (mC (getI 5) (mC (getI 4) (mN)))) (mL mkTup (mC (getI 4) (mC (getI 5) (mN)))))) (sNil))) (sFz 3 (sR (mF (fA (fun d => lift (sortAO d)) (getI 3))))))
def F__law_gates : List D → M D := runF 6 n__law_gates
theorem sc__law_gates : FnScope nn__law_gates ps__law_gates dd__law_gates.scope := ⟨rfl, rfl, rfl, by decide +kernel, rfl, by decide +kernel, by decide +kernel⟩
theorem ok__law_gates {P : Program} {w : World} {K : PySem.W.Frag} {mg : Str → Option Value} {base : Heap} {C : Str → Addr} (T : Txt P w K mg base C) (G__law_below : Fn P w K mg base C dd__law_below ps__law_below 1 F__law_below) {f : Addr} {fd : FuncData} (D : FunD K dd__law_gates.name dd__law_gates.qual dd__law_gates.params dd__law_gates.body dd__law_gates.scope [] [] f fd) (hm : mg dd__law_gates.name = some (.ref f)) : Fn P w K mg base C dd__law_gates ps__law_gates 2 F__law_gates := by
  refine ⟨f, fd, D, hm, D.bindsN (fun _ _ _ _ _ _ us hl => by
    obtain ⟨a0, a1, a2, rfl⟩ := len3 hl
    kernel_rfl), ok_def (d := dd__law_gates) (N := nn__law_gates) (ps := ps__law_gates) (n := n__law_gates) D sc__law_gates (fun E hK hC cdv A st s H W c hp => ?_)⟩
  subst hC
  exact s_cons (s_setV c 3 (CF.cv (f_lst (a_nil)))) (s_cons (s_for c hp (i_seq c (c_im 0)) (y_tup c (y_cons (y_name c 4) (y_cons (y_name c 5) (y_nil))) (len_cons (len_cons len_nil))) (s_one (s_if (t_ne c (c_call c G__law_below (a_cons (x_any c (c_im 1) (c_im 4)) (a_cons (c_im 2) (a_nil)))) (c_call c G__law_below (a_cons (x_any c (c_im 1) (c_im 5)) (a_cons (c_im 2) (a_nil))))) (s_one (s_append c 3 (c_if (t_val (c_call c G__law_below (a_cons (x_any c (c_im 1) (c_im 4)) (a_cons (c_im 2) (a_nil))))) (c_tup (a_cons (c_im 5) (a_cons (c_im 4) (a_nil)))) (c_tup (a_cons (c_im 4) (a_cons (c_im 5) (a_nil))))))) (s_nil)))) (s_frz 3 (s_one (s_ret (CF.ce (g_sortA c T.sorted (c_im 3)))))))
abbrev nn_moved : List Str := ["a", "b", "part"]
def n_moved : PEnv → M (Fl × PEnv) := sR (mL mkTup (mC (mL (callM ps_plus.length F_plus) (mC (mB subAny (getI 0) (mk1 (.int 0))) (mC (mL (callM ps_times.length F_times) (mC (getI 2) (mC (mL (callM ps_minus.length F_minus) (mC (mB subAny (getI 1) (mk1 (.int 0))) (mC (mB subAny (getI 0) (mk1 (.int 0))) (mN)))) (mN)))) (mN)))) (mC (mL (callM ps_plus.length F_plus) (mC (mB subAny (getI 0) (mk1 (.int 1))) (mC (mL (callM ps_times.length F_times) (mC (getI 2) (mC (mL (callM ps_minus.length F_minus) (mC (mB subAny (getI 1) (mk1 (.int 1))) (mC (mB subAny (getI 0) (mk1 (.int 1))) (mN)))) (mN)))) (mN)))) (mN))))
def F_moved : List D → M D := runF 3 n_moved
theorem sc_moved : FnScope nn_moved ps_moved dd_moved.scope := ⟨rfl, rfl, rfl, by decide +kernel, rfl, by decide +kernel, by decide +kernel⟩
theorem ok_moved {P : Program} {w : World} {K : PySem.W.Frag} {mg : Str → Option Value} {base : Heap} {C : Str → Addr} (T : Txt P w K mg base C) (G_plus : Fn P w K mg base C dd_plus ps_plus 2 F_plus) (G_times : Fn P w K mg base C dd_times ps_times 2 F_times) (G_minus : Fn P w K mg base C dd_minus ps_minus 2 F_minus) {f : Addr} {fd : FuncData} (D : FunD K dd_moved.name dd_moved.qual dd_moved.params dd_moved.body dd_moved.scope [] [] f fd) (hm : mg dd_moved.name = some (.ref f)) : Fn P w K mg base C dd_moved ps_moved 3 F_moved := by
  refine ⟨f, fd, D, hm, D.bindsN (fun _ _ _ _ _ _ us hl => by
    obtain ⟨a0, a1, a2, rfl⟩ := len3 hl
    kernel_rfl), ok_def (d := dd_moved) (N := nn_moved) (ps := ps_moved) (n := n_moved) D sc_moved (fun E hK hC cdv A st s H W c hp => ?_)⟩
  subst hC
  exact s_one (s_ret (c_tup (a_cons (c_call c G_plus (a_cons (x_any c (c_im 0) (c_int)) (a_cons (c_call c G_times (a_cons (c_im 2) (a_cons (c_call c G_minus (a_cons (x_any c (c_im 1) (c_int)) (a_cons (x_any c (c_im 0) (c_int)) (a_nil)))) (a_nil)))) (a_nil)))) (a_cons (c_call c G_plus (a_cons (x_any c (c_im 0) (c_int)) (a_cons (c_call c G_times (a_cons (c_im 2) (a_cons (c_call c G_minus (a_cons (x_any c (c_im 1) (c_int)) (a_cons (x_any c (c_im 0) (c_int)) (a_nil)))) (a_nil)))) (a_nil)))) (a_nil)))))
abbrev nn_edges_of : List Str := ["mesh", "way"]
def n_edges_of : PEnv → M (Fl × PEnv) := sR (mL (arg1 fun d => lift (tupleO d)) (mC (mF (fSetU (mL (callM ps_ways_of.length F_ways_of) (mC (getI 0) (mN))) (gN 1) (mL mkTup (mC (mL (arg1 fun d => lift (minAO false d)) (mC (getI 1) mN)) (mC (mL (arg1 fun d => lift (minAO true d)) (mC (getI 1) mN)) (mN)))))) mN))
def F_edges_of : List D → M D := runF 2 n_edges_of
theorem sc_edges_of : FnScope nn_edges_of ps_edges_of dd_edges_of.scope := ⟨rfl, rfl, rfl, by decide +kernel, rfl, by decide +kernel, by decide +kernel⟩
theorem ok_edges_of {P : Program} {w : World} {K : PySem.W.Frag} {mg : Str → Option Value} {base : Heap} {C : Str → Addr} (T : Txt P w K mg base C) (G_ways_of : Fn P w K mg base C dd_ways_of ps_ways_of 2 F_ways_of) {f : Addr} {fd : FuncData} (D : FunD K dd_edges_of.name dd_edges_of.qual dd_edges_of.params dd_edges_of.body dd_edges_of.scope [] [] f fd) (hm : mg dd_edges_of.name = some (.ref f)) : Fn P w K mg base C dd_edges_of ps_edges_of 3 F_edges_of := by
  refine ⟨f, fd, D, hm, D.bindsN (fun _ _ _ _ _ _ us hl => by
    obtain ⟨a0, rfl⟩ := len1 hl
    kernel_rfl), ok_def (d := dd_edges_of) (N := nn_edges_of) (ps := ps_edges_of) (n := n_edges_of) D sc_edges_of (fun E hK hC cdv A st s H W c hp => ?_)⟩
  subst hC
  exact s_one (s_ret (g_tuple c T.tuple (CF.ce (f_setSort c [("way", 1)] T.sorted (c_call c G_ways_of (a_cons (c_im 0) (a_nil))) (by rfl) (by decide) (fun s1 H1 a1 l1 p1 => y_name (c.blk s1 H1 l1 a1 p1) 1) (fun s1 H1 a1 l1 p1 => c_tup (a_cons (g_min1 (c.blk s1 H1 l1 a1 p1) T.min (c_im 1)) (a_cons (g_max1 (c.blk s1 H1 l1 a1 p1) T.max (c_im 1)) (a_nil))))))))
abbrev nn_high_points : List Str := ["mesh", "field", "level", "number"]
def n_high_points : PEnv → M (Fl × PEnv) := sR (mL (arg1 fun d => lift (tupleO d)) (mC (mF (blkM [3] (iR1 (mL (arg1 lenD) (mC (mFld "Mesh" "points" (getI 0)) mN))) (gN 3) (mT (mL (callM ps_is_high.length F_is_high) (mC (getI 1) (mC (getI 2) (mC (getI 3) (mN)))))) (getI 3))) mN))
def F_high_points : List D → M D := runF 4 n_high_points
theorem sc_high_points : FnScope nn_high_points ps_high_points dd_high_points.scope := ⟨rfl, rfl, rfl, by decide +kernel, rfl, by decide +kernel, by decide +kernel⟩
theorem ok_high_points {P : Program} {w : World} {K : PySem.W.Frag} {mg : Str → Option Value} {base : Heap} {C : Str → Addr} (T : Txt P w K mg base C) (G_is_high : Fn P w K mg base C dd_is_high ps_is_high 2 F_is_high) {f : Addr} {fd : FuncData} (D : FunD K dd_high_points.name dd_high_points.qual dd_high_points.params dd_high_points.body dd_high_points.scope [] [] f fd) (hm : mg dd_high_points.name = some (.ref f)) : Fn P w K mg base C dd_high_points ps_high_points 3 F_high_points := by
  refine ⟨f, fd, D, hm, D.bindsN (fun _ _ _ _ _ _ us hl => by
    obtain ⟨a0, a1, a2, rfl⟩ := len3 hl
    kernel_rfl), ok_def (d := dd_high_points) (N := nn_high_points) (ps := ps_high_points) (n := n_high_points) D sc_high_points (fun E hK hC cdv A st s H W c hp => ?_)⟩
  subst hC
  exact s_one (s_ret (g_tuple c T.tuple (CF.ce (f_comp c [("number", 3)] (i_range1 T.range (g_len c T.len (c_fld "Mesh" T.cl_Mesh T.no_Mesh_points (c_im 0)))) (by rfl) (by decide) (fun s1 H1 a1 l1 p1 => y_name (c.blk s1 H1 l1 a1 p1) 3) (fun s1 H1 a1 l1 p1 => q_one (t_val (c_call (c.blk s1 H1 l1 a1 p1) G_is_high (a_cons (c_im 1) (a_cons (c_im 2) (a_cons (c_im 3) (a_nil))))))) (fun s1 H1 a1 l1 p1 => c_im 3)))))
abbrev nn__law_lattice : List Str := ["_law_deal_here", "_law_wide", "_law_high", "_law_bend", "_law_slant", "_law_points", "_law_triangles", "_law_at", "_law_x", "_law_y", "_law_row", "_law_place", "_law_a", "_law_b", "_law_c", "_law_d"]
def n__law_lattice : PEnv → M (Fl × PEnv) := seqM (sP2 3 4 (vE (mL (callM ps__law_pick.length F__law_pick) (mC (getI 0) (mC (mF (fL (mC (mk1 (.int 1)) (mC (mk1 (.int 1)) (mC (mk1 (.int 3)) (mN)))))) (mN))))) (vE (mB subD (mL (callM ps__law_draw.length F__law_draw) (mC (getI 0) (mC (mk1 (.int 5)) (mN)))) (mk1 (.int 2))))) (seqM (sP2 5 6 (vF (fL (mN))) (vE (mF (fL (mN))))) (seqM (sFor (iR1 (mB mulD (mB addD (getI 1) (mk1 (.int 1))) (mB addD (getI 2) (mk1 (.int 1))))) (gN 7) (seqM (sV 8 (vE (mB subD (mB addD (mB mulD (mk1 (.int 5)) (mB modD (mL (arg1 fun d => lift (intO d)) (mC (getI 7) mN)) (mB addD (getI 1) (mk1 (.int 1))))) (mL (callM ps__law_draw.length F__law_draw) (mC (getI 0) (mC (getI 3) (mN))))) (mB fdivD (getI 3) (mk1 (.int 2)))))) (seqM (sV 9 (vE (mB subD (mB addD (mB mulD (mk1 (.int 5)) (mB fdivD (getI 7) (mB addD (getI 1) (mk1 (.int 1))))) (mL (callM ps__law_draw.length F__law_draw) (mC (getI 0) (mC (getI 3) (mN))))) (mB fdivD (getI 3) (mk1 (.int 2)))))) (appM 5 (mL mkTup (mC (mB addD (getI 8) (mB mulD (getI 4) (getI 9))) (mC (getI 9) (mN)))))))) (sFz 5 (seqM (sFor (iR1 (getI 2)) (gN 10) (sFor (iR1 (getI 1)) (gN 11) (seqM (sV 12 (vE (mB addD (mB mulD (getI 10) (mB addD (getI 1) (mk1 (.int 1)))) (getI 11)))) (seqM (sP3 13 14 15 (vC (vE (mB addD (getI 12) (mk1 (.int 1)))) (vC (vE (mB addD (mB addD (getI 12) (getI 1)) (mk1 (.int 2)))) (vC (vE (mB addD (mB addD (getI 12) (getI 1)) (mk1 (.int 1)))) (vN))))) (sIf (mT (mB eqD (mL (callM ps__law_draw.length F__law_draw) (mC (getI 0) (mC (mk1 (.int 2)) (mN)))) (mk1 (.int 0)))) (sV 6 (vE (mB addD (getI 6) (mF (fL (mC (mL mkTup (mC (getI 12) (mC (getI 13) (mC (getI 14) (mN))))) (mC (mL mkTup (mC (getI 12) (mC (getI 14) (mC (getI 15) (mN))))) (mN)))))))) (sV 6 (vE (mB addD (getI 6) (mF (fL (mC (mL mkTup (mC (getI 12) (mC (getI 13) (mC (getI 15) (mN))))) (mC (mL mkTup (mC (getI 13) (mC (getI 14) (mC (getI 15) (mN))))) (mN))))))))))))) (sR (mL mkTup (mC (getI 5) (mC (getI 6) (mN)))))))))
def F__law_lattice : List D → M D := runF 16 n__law_lattice
theorem sc__law_lattice : FnScope nn__law_lattice ps__law_lattice dd__law_lattice.scope := ⟨rfl, rfl, rfl, by decide +kernel, rfl, by decide +kernel, by decide +kernel⟩
theorem ok__law_lattice {P : Program} {w : World} {K : PySem.W.Frag} {mg : Str → Option Value} {base : Heap} {C : Str → Addr} (T : Txt P w K mg base C) (G__law_pick : Fn P w K mg base C dd__law_pick ps__law_pick 2 F__law_pick) (G__law_draw : Fn P w K mg base C dd__law_draw ps__law_draw 1 F__law_draw) {f : Addr} {fd : FuncData} (D : FunD K dd__law_lattice.name dd__law_lattice.qual dd__law_lattice.params dd__law_lattice.body dd__law_lattice.scope [] [] f fd) (hm : mg dd__law_lattice.name = some (.ref f)) : Fn P w K mg base C dd__law_lattice ps__law_lattice 3 F__law_lattice := by
  refine ⟨f, fd, D, hm, D.bindsN (fun _ _ _ _ _ _ us hl => by
    obtain ⟨a0, a1, a2, rfl⟩ := len3 hl
    kernel_rfl), ok_def (d := dd__law_lattice) (N := nn__law_lattice) (ps := ps__law_lattice) (n := n__law_lattice) D sc__law_lattice (fun E hK hC cdv A st s H W c hp => ?_)⟩
  subst hC
  exact s_cons (s_par2 c 3 4 (CE.cv (c_call c G__law_pick (a_cons (c_im 0) (a_cons (CF.ce (f_lst (a_cons (c_int) (a_cons (c_int) (a_cons (c_int) (a_nil)))))) (a_nil))))) (CE.cv (b_sub (c_call c G__law_draw (a_cons (c_im 0) (a_cons (c_int) (a_nil)))) (c_int)))) (s_cons (s_par2 c 5 6 (CF.cv (f_lst (a_nil))) (CE.cv (CF.ce (f_lst (a_nil))))) (s_cons (s_for c hp (i_range1 T.range (b_mul (b_add c (c_im 1) (c_int)) (b_add c (c_im 2) (c_int)))) (y_name c 7) (s_cons (s_setV c 8 (CE.cv (b_sub (b_add c (b_mul (c_int) (b_mod (g_int T.int (c_im 7)) (b_add c (c_im 1) (c_int)))) (c_call c G__law_draw (a_cons (c_im 0) (a_cons (c_im 3) (a_nil))))) (b_fdiv (c_im 3) (c_int))))) (s_cons (s_setV c 9 (CE.cv (b_sub (b_add c (b_mul (c_int) (b_fdiv (c_im 7) (b_add c (c_im 1) (c_int)))) (c_call c G__law_draw (a_cons (c_im 0) (a_cons (c_im 3) (a_nil))))) (b_fdiv (c_im 3) (c_int))))) (s_one (s_append c 5 (c_tup (a_cons (b_add c (c_im 8) (b_mul (c_im 4) (c_im 9))) (a_cons (c_im 9) (a_nil))))))))) (s_frz 5 (s_cons (s_for c hp (i_range1 T.range (c_im 2)) (y_name c 10) (s_one (s_for c hp (i_range1 T.range (c_im 1)) (y_name c 11) (s_cons (s_setV c 12 (CE.cv (b_add c (b_mul (c_im 10) (b_add c (c_im 1) (c_int))) (c_im 11)))) (s_cons (s_par3 c 13 14 15 (va_cons (CE.cv (b_add c (c_im 12) (c_int))) (va_cons (CE.cv (b_add c (b_add c (c_im 12) (c_im 1)) (c_int))) (va_cons (CE.cv (b_add c (b_add c (c_im 12) (c_im 1)) (c_int))) (va_nil))))) (s_one (s_if (t_eq c (c_call c G__law_draw (a_cons (c_im 0) (a_cons (c_int) (a_nil)))) (c_int)) (s_one (s_setV c 6 (CE.cv (b_add c (c_im 6) (CF.ce (f_lst (a_cons (c_tup (a_cons (c_im 12) (a_cons (c_im 13) (a_cons (c_im 14) (a_nil))))) (a_cons (c_tup (a_cons (c_im 12) (a_cons (c_im 14) (a_cons (c_im 15) (a_nil))))) (a_nil))))))))) (s_one (s_setV c 6 (CE.cv (b_add c (c_im 6) (CF.ce (f_lst (a_cons (c_tup (a_cons (c_im 12) (a_cons (c_im 13) (a_cons (c_im 15) (a_nil))))) (a_cons (c_tup (a_cons (c_im 13) (a_cons (c_im 14) (a_cons (c_im 15) (a_nil))))) (a_nil)))))))))))))))) (s_one (s_ret (c_tup (a_cons (c_im 5) (a_cons (c_im 6) (a_nil))))))))))
abbrev nn__law_cut : List Str := ["_law_deal_here", "_law_triangles", "_law_turns", "_law_turn", "_law_at", "_law_rest"]
def n__law_cut : PEnv → M (Fl × PEnv) := seqM (sFor (iR1 (getI 2)) (gN 3) (seqM (sV 4 (vE (mL (callM ps__law_draw.length F__law_draw) (mC (getI 0) (mC (mL (arg1 lenD) (mC (getI 1) mN)) (mN)))))) (seqM (sV 5 (vE (mB addD (mCut (getI 1) (oN) (oS (getI 4))) (mCut (getI 1) (oS (mB addD (getI 4) (mk1 (.int 1)))) (oN))))) (sIf (aAnd (mT (mB neD (getI 5) (mF (fL (mN))))) (mT (mL (callM ps__law_whole.length F__law_whole) (mC (getI 5) (mN))))) (sV 1 (vE (getI 5))) (sNil))))) (sR (getI 1))
def F__law_cut : List D → M D := runF 6 n__law_cut
theorem sc__law_cut : FnScope nn__law_cut ps__law_cut dd__law_cut.scope := ⟨rfl, rfl, rfl, by decide +kernel, rfl, by decide +kernel, by decide +kernel⟩
theorem ok__law_cut {P : Program} {w : World} {K : PySem.W.Frag} {mg : Str → Option Value} {base : Heap} {C : Str → Addr} (T : Txt P w K mg base C) (G__law_draw : Fn P w K mg base C dd__law_draw ps__law_draw 1 F__law_draw) (G__law_whole : Fn P w K mg base C dd__law_whole ps__law_whole 2 F__law_whole) {f : Addr} {fd : FuncData} (D : FunD K dd__law_cut.name dd__law_cut.qual dd__law_cut.params dd__law_cut.body dd__law_cut.scope [] [] f fd) (hm : mg dd__law_cut.name = some (.ref f)) : Fn P w K mg base C dd__law_cut ps__law_cut 3 F__law_cut := by
  refine ⟨f, fd, D, hm, D.bindsN (fun _ _ _ _ _ _ us hl => by
    obtain ⟨a0, a1, a2, rfl⟩ := len3 hl
    kernel_rfl), ok_def (d := dd__law_cut) (N := nn__law_cut) (ps := ps__law_cut) (n := n__law_cut) D sc__law_cut (fun E hK hC cdv A st s H W c hp => ?_)⟩
  subst hC
  exact s_cons (s_for c hp (i_range1 T.range (c_im 2)) (y_name c 3) (s_cons (s_setV c 4 (CE.cv (c_call c G__law_draw (a_cons (c_im 0) (a_cons (g_len c T.len (c_im 1)) (a_nil)))))) (s_cons (s_setV c 5 (CE.cv (b_add c (c_cut c (c_im 1) (o_none) (o_some (c_im 4))) (c_cut c (c_im 1) (o_some (b_add c (c_im 4) (c_int))) (o_none))))) (s_one (s_if (CW.ct (w_and (t_ne c (c_im 5) (CF.ce (f_lst (a_nil)))) (w_and1 (t_val (c_call c G__law_whole (a_cons (c_im 5) (a_nil))))))) (s_one (s_setV c 1 (CE.cv (c_im 5)))) (s_nil)))))) (s_one (s_ret (c_im 1)))
abbrev nn__law_put : List Str := ["_law_deal_here", "_law_bottom", "_law_points", "_law_triangles", "_law_at", "_law_turn", "_law_a", "_law_b", "_law_c", "_law_parts", "_law_x", "_law_y", "_law_found", "_law_place", "_law_triangle", "_law_olds", "_law_old", "_law_many", "_law_corner", "_law_point_here"]
def n__law_put : PEnv → M (Fl × PEnv) := seqM (sP2 4 5 (vE (mL (callM ps__law_draw.length F__law_draw) (mC (getI 0) (mC (mL (arg1 lenD) (mC (getI 3) mN)) (mN))))) (vE (mL (callM ps__law_draw.length F__law_draw) (mC (getI 0) (mC (mk1 (.int 3)) (mN)))))) (seqM (sA (gTup' (gCons' (gN 6) (gCons' (gN 7) (gCons' (gN 8) (gNil'))))) (mCut (mB addD (mB subAny (getI 3) (getI 4)) (mB subAny (getI 3) (getI 4))) (oS (getI 5)) (oS (mB addD (getI 5) (mk1 (.int 3)))))) (seqM (sV 9 (vE (mL (callM ps__law_pick.length F__law_pick) (mC (getI 0) (mC (mF (fL (mC (mF (fL (mC (mk1 (.int 1)) (mC (mk1 (.int 1)) (mC (mk1 (.int 1)) (mN)))))) (mC (mF (fL (mC (mk1 (.int 2)) (mC (mk1 (.int 1)) (mC (mk1 (.int 1)) (mN)))))) (mC (mF (fL (mC (mk1 (.int 1)) (mC (mk1 (.int 1)) (mC (mk1 (.int 0)) (mN)))))) (mC (mF (fL (mC (mk1 (.int 1)) (mC (mk1 (.int 2)) (mC (mk1 (.int 0)) (mN)))))) (mC (mF (fL (mC (mk1 (.int 3)) (mC (mk1 (.int 1)) (mC (mk1 (.int 0)) (mN)))))) (mC (mF (fL (mC (mk1 (.int 1)) (mC (mk1 (.int 2)) (mC (mk1 (.int 2)) (mN)))))) (mN))))))))) (mN)))))) (seqM (sV 10 (vE (mB addD (mB addD (mB mulD (mB subAny (getI 9) (mk1 (.int 0))) (mB subAny (mB subAny (getI 2) (getI 6)) (mk1 (.int 0)))) (mB mulD (mB subAny (getI 9) (mk1 (.int 1))) (mB subAny (mB subAny (getI 2) (getI 7)) (mk1 (.int 0))))) (mB mulD (mB subAny (getI 9) (mk1 (.int 2))) (mB subAny (mB subAny (getI 2) (getI 8)) (mk1 (.int 0))))))) (seqM (sV 11 (vE (mB addD (mB addD (mB mulD (mB subAny (getI 9) (mk1 (.int 0))) (mB subAny (mB subAny (getI 2) (getI 6)) (mk1 (.int 1)))) (mB mulD (mB subAny (getI 9) (mk1 (.int 1))) (mB subAny (mB subAny (getI 2) (getI 7)) (mk1 (.int 1))))) (mB mulD (mB subAny (getI 9) (mk1 (.int 2))) (mB subAny (mB subAny (getI 2) (getI 8)) (mk1 (.int 1))))))) (seqM (sV 12 (vF (fL (mN)))) (seqM (sFor (iEn (getI 3)) (gTup' (gCons' (gN 13) (gCons' (gN 14) (gNil')))) (seqM (sV 15 (vE (mIf (aAnd (mT (mB eqD (mB subAny (getI 9) (mk1 (.int 2))) (mk1 (.int 0)))) (aAnd (mT (mB inAny (getI 6) (getI 14))) (mT (mB inAny (getI 7) (getI 14))))) (mF (fL (mC (getI 6) (mC (getI 7) (mN))))) (mF (fL (mN)))))) (seqM (sV 15 (vE (mIf (aAnd (mT (mB gtD (mB subAny (getI 9) (mk1 (.int 2))) (mk1 (.int 0)))) (mT (mB eqD (getI 13) (getI 4)))) (mF (fL (mC (getI 6) (mC (getI 7) (mC (getI 8) (mN)))))) (getI 15)))) (seqM (sIf (mT (mB eqD (getI 15) (mF (fL (mN))))) (appM 12 (getI 14)) (sNil)) (sFor (iSq (getI 15)) (gN 16) (appM 12 (mL (arg1 fun d => lift (tupleO d)) (mC (mF (blkM [18] (iSq (getI 14)) (gN 18) (aTrue) (mIf (mT (mB eqD (getI 18) (getI 16))) (mL (arg1 lenD) (mC (getI 2) mN)) (getI 18)))) mN)))))))) (sFz 12 (seqM (sV 17 (vE (mL (arg1 fun d => lift (sumO d)) (mC (getI 9) mN)))) (sR (mL mkTup (mC (mB mulD (getI 17) (getI 1)) (mC (mB addD (mF (blkM [19] (iSq (getI 2)) (gN 19) (aTrue) (mL mkTup (mC (mB mulD (getI 17) (mB subAny (getI 19) (mk1 (.int 0)))) (mC (mB mulD (getI 17) (mB subAny (getI 19) (mk1 (.int 1)))) (mN)))))) (mF (fL (mC (mL mkTup (mC (getI 10) (mC (getI 11) (mN)))) (mN))))) (mC (getI 12) (mN))))))))))))))
def F__law_put : List D → M D := runF 20 n__law_put
theorem sc__law_put : FnScope nn__law_put ps__law_put dd__law_put.scope := ⟨rfl, rfl, rfl, by decide +kernel, rfl, by decide +kernel, by decide +kernel⟩
theorem ok__law_put {P : Program} {w : World} {K : PySem.W.Frag} {mg : Str → Option Value} {base : Heap} {C : Str → Addr} (T : Txt P w K mg base C) (G__law_pick : Fn P w K mg base C dd__law_pick ps__law_pick 2 F__law_pick) (G__law_draw : Fn P w K mg base C dd__law_draw ps__law_draw 1 F__law_draw) {f : Addr} {fd : FuncData} (D : FunD K dd__law_put.name dd__law_put.qual dd__law_put.params dd__law_put.body dd__law_put.scope [] [] f fd) (hm : mg dd__law_put.name = some (.ref f)) : Fn P w K mg base C dd__law_put ps__law_put 3 F__law_put := by
  refine ⟨f, fd, D, hm, D.bindsN (fun _ _ _ _ _ _ us hl => by
    obtain ⟨a0, a1, a2, a3, rfl⟩ := len4 hl
    kernel_rfl), ok_def (d := dd__law_put) (N := nn__law_put) (ps := ps__law_put) (n := n__law_put) D sc__law_put (fun E hK hC cdv A st s H W c hp => ?_)⟩
  subst hC
  exact s_cons (s_par2 c 4 5 (CE.cv (c_call c G__law_draw (a_cons (c_im 0) (a_cons (g_len c T.len (c_im 3)) (a_nil))))) (CE.cv (c_call c G__law_draw (a_cons (c_im 0) (a_cons (c_int) (a_nil)))))) (s_cons (s_asg (c_cut c (b_add c (x_any c (c_im 3) (c_im 4)) (x_any c (c_im 3) (c_im 4))) (o_some (c_im 5)) (o_some (b_add c (c_im 5) (c_int)))) (y_tup c (y_cons (y_name c 6) (y_cons (y_name c 7) (y_cons (y_name c 8) (y_nil)))) (len_cons (len_cons (len_cons len_nil))))) (s_cons (s_setV c 9 (CE.cv (c_call c G__law_pick (a_cons (c_im 0) (a_cons (CF.ce (f_lst (a_cons (CF.ce (f_lst (a_cons (c_int) (a_cons (c_int) (a_cons (c_int) (a_nil)))))) (a_cons (CF.ce (f_lst (a_cons (c_int) (a_cons (c_int) (a_cons (c_int) (a_nil)))))) (a_cons (CF.ce (f_lst (a_cons (c_int) (a_cons (c_int) (a_cons (c_int) (a_nil)))))) (a_cons (CF.ce (f_lst (a_cons (c_int) (a_cons (c_int) (a_cons (c_int) (a_nil)))))) (a_cons (CF.ce (f_lst (a_cons (c_int) (a_cons (c_int) (a_cons (c_int) (a_nil)))))) (a_cons (CF.ce (f_lst (a_cons (c_int) (a_cons (c_int) (a_cons (c_int) (a_nil)))))) (a_nil))))))))) (a_nil)))))) (s_cons (s_setV c 10 (CE.cv (b_add c (b_add c (b_mul (x_any c (c_im 9) (c_int)) (x_any c (x_any c (c_im 2) (c_im 6)) (c_int))) (b_mul (x_any c (c_im 9) (c_int)) (x_any c (x_any c (c_im 2) (c_im 7)) (c_int)))) (b_mul (x_any c (c_im 9) (c_int)) (x_any c (x_any c (c_im 2) (c_im 8)) (c_int)))))) (s_cons (s_setV c 11 (CE.cv (b_add c (b_add c (b_mul (x_any c (c_im 9) (c_int)) (x_any c (x_any c (c_im 2) (c_im 6)) (c_int))) (b_mul (x_any c (c_im 9) (c_int)) (x_any c (x_any c (c_im 2) (c_im 7)) (c_int)))) (b_mul (x_any c (c_im 9) (c_int)) (x_any c (x_any c (c_im 2) (c_im 8)) (c_int)))))) (s_cons (s_setV c 12 (CF.cv (f_lst (a_nil)))) (s_cons (s_for c hp (i_enum c T.enumerate (c_im 3)) (y_tup c (y_cons (y_name c 13) (y_cons (y_name c 14) (y_nil))) (len_cons (len_cons len_nil))) (s_cons (s_setV c 15 (CE.cv (c_if (CW.ct (w_and (t_eq c (x_any c (c_im 9) (c_int)) (c_int)) (w_and (t_inA c (c_im 6) (c_im 14)) (w_and1 (t_inA c (c_im 7) (c_im 14)))))) (CF.ce (f_lst (a_cons (c_im 6) (a_cons (c_im 7) (a_nil))))) (CF.ce (f_lst (a_nil)))))) (s_cons (s_setV c 15 (CE.cv (c_if (CW.ct (w_and (t_gt (x_any c (c_im 9) (c_int)) (c_int)) (w_and1 (t_eq c (c_im 13) (c_im 4))))) (CF.ce (f_lst (a_cons (c_im 6) (a_cons (c_im 7) (a_cons (c_im 8) (a_nil)))))) (c_im 15)))) (s_cons (s_if (t_eq c (c_im 15) (CF.ce (f_lst (a_nil)))) (s_one (s_append c 12 (c_im 14))) (s_nil)) (s_one (s_for c hp (i_seq c (c_im 15)) (y_name c 16) (s_one (s_append c 12 (g_tuple c T.tuple (CF.ce (f_comp c [("_law_corner", 18)] (i_seq c (c_im 14)) (by rfl) (by decide) (fun s1 H1 a1 l1 p1 => y_name (c.blk s1 H1 l1 a1 p1) 18) (fun s1 H1 a1 l1 p1 => q_nil) (fun s1 H1 a1 l1 p1 => c_if (t_eq (c.blk s1 H1 l1 a1 p1) (c_im 18) (c_im 16)) (g_len (c.blk s1 H1 l1 a1 p1) T.len (c_im 2)) (c_im 18))))))))))))) (s_frz 12 (s_cons (s_setV c 17 (CE.cv (g_sum c T.sum (c_im 9)))) (s_one (s_ret (c_tup (a_cons (b_mul (c_im 17) (c_im 1)) (a_cons (b_add c (CF.ce (f_comp c [("_law_point_here", 19)] (i_seq c (c_im 2)) (by rfl) (by decide) (fun s1 H1 a1 l1 p1 => y_name (c.blk s1 H1 l1 a1 p1) 19) (fun s1 H1 a1 l1 p1 => q_nil) (fun s1 H1 a1 l1 p1 => c_tup (a_cons (b_mul (c_im 17) (x_any (c.blk s1 H1 l1 a1 p1) (c_im 19) (c_int))) (a_cons (b_mul (c_im 17) (x_any (c.blk s1 H1 l1 a1 p1) (c_im 19) (c_int))) (a_nil)))))) (CF.ce (f_lst (a_cons (c_tup (a_cons (c_im 10) (a_cons (c_im 11) (a_nil)))) (a_nil))))) (a_cons (c_im 12) (a_nil)))))))))))))))
abbrev nn__law_made : List Str := ["_law_bottom", "_law_points", "_law_triangles", "_law_corners", "_law_pair", "_law_triangle"]
def n__law_made : PEnv → M (Fl × PEnv) := seqM (sV 3 (vE (mL (arg1 fun d => lift (tupleO d)) (mC (mF (blkM [4] (iSq (getI 1)) (gN 4) (aTrue) (mL (callM ps__law_point.length F__law_point) (mC (getI 4) (mC (getI 0) (mN)))))) mN)))) (sR (mL (ins2 "Mesh" "points" "triangles") (mC (getI 3) (mC (mL (arg1 fun d => lift (tupleO d)) (mC (mF (fA (fun d => lift (sortAO d)) (mF (blkM [5] (iSq (getI 2)) (gN 5) (aTrue) (mL (callM ps__law_least.length F__law_least) (mC (getI 5) (mN))))))) mN)) (mN)))))
def F__law_made : List D → M D := runF 6 n__law_made
theorem sc__law_made : FnScope nn__law_made ps__law_made dd__law_made.scope := ⟨rfl, rfl, rfl, by decide +kernel, rfl, by decide +kernel, by decide +kernel⟩
theorem ok__law_made {P : Program} {w : World} {K : PySem.W.Frag} {mg : Str → Option Value} {base : Heap} {C : Str → Addr} (T : Txt P w K mg base C) (G__law_point : Fn P w K mg base C dd__law_point ps__law_point 2 F__law_point) (G__law_least : Fn P w K mg base C dd__law_least ps__law_least 1 F__law_least) {f : Addr} {fd : FuncData} (D : FunD K dd__law_made.name dd__law_made.qual dd__law_made.params dd__law_made.body dd__law_made.scope [] [] f fd) (hm : mg dd__law_made.name = some (.ref f)) : Fn P w K mg base C dd__law_made ps__law_made 3 F__law_made := by
  refine ⟨f, fd, D, hm, D.bindsN (fun _ _ _ _ _ _ us hl => by
    obtain ⟨a0, a1, a2, rfl⟩ := len3 hl
    kernel_rfl), ok_def (d := dd__law_made) (N := nn__law_made) (ps := ps__law_made) (n := n__law_made) D sc__law_made (fun E hK hC cdv A st s H W c hp => ?_)⟩
  subst hC
  exact s_cons (s_setV c 3 (CE.cv (g_tuple c T.tuple (CF.ce (f_comp c [("_law_pair", 4)] (i_seq c (c_im 1)) (by rfl) (by decide) (fun s1 H1 a1 l1 p1 => y_name (c.blk s1 H1 l1 a1 p1) 4) (fun s1 H1 a1 l1 p1 => q_nil) (fun s1 H1 a1 l1 p1 => c_call (c.blk s1 H1 l1 a1 p1) G__law_point (a_cons (c_im 4) (a_cons (c_im 0) (a_nil))))))))) (s_one (s_ret (c_make2 c T.rec_Mesh (a_cons (c_im 3) (a_cons (g_tuple c T.tuple (CF.ce (g_sortA c T.sorted (CF.ce (f_comp c [("_law_triangle", 5)] (i_seq c (c_im 2)) (by rfl) (by decide) (fun s1 H1 a1 l1 p1 => y_name (c.blk s1 H1 l1 a1 p1) 5) (fun s1 H1 a1 l1 p1 => q_nil) (fun s1 H1 a1 l1 p1 => c_call (c.blk s1 H1 l1 a1 p1) G__law_least (a_cons (c_im 5) (a_nil)))))))) (a_nil))))))
abbrev nn__law_level : List Str := ["_law_deal_here", "_law_field_here", "_law_one", "_law_other", "_law_kind"]
def n__law_level : PEnv → M (Fl × PEnv) := seqM (sP3 2 3 4 (vC (vE (mL (callM ps__law_pick.length F__law_pick) (mC (getI 0) (mC (getI 1) (mN))))) (vC (vE (mL (callM ps__law_pick.length F__law_pick) (mC (getI 0) (mC (getI 1) (mN))))) (vC (vE (mL (callM ps__law_draw.length F__law_draw) (mC (getI 0) (mC (mk1 (.int 5)) (mN))))) (vN))))) (seqM (sIf (mT (mB leD (getI 4) (mk1 (.int 1)))) (sR (getI 2)) (sNil)) (seqM (sIf (mT (mB eqD (getI 4) (mk1 (.int 2)))) (sR (mL (callM ps__law_frac.length F__law_frac) (mC (mB addD (mB mulD (mB subAny (getI 2) (mk1 (.int 0))) (mB subAny (getI 3) (mk1 (.int 1)))) (mB mulD (mB subAny (getI 3) (mk1 (.int 0))) (mB subAny (getI 2) (mk1 (.int 1))))) (mC (mB mulD (mB mulD (mk1 (.int 2)) (mB subAny (getI 2) (mk1 (.int 1)))) (mB subAny (getI 3) (mk1 (.int 1)))) (mN))))) (sNil)) (seqM (sIf (mT (mB eqD (getI 4) (mk1 (.int 3)))) (sR (mL (callM ps__law_plus.length F__law_plus) (mC (getI 2) (mC (mL mkTup (mC (mk1 (.int 1)) (mC (mB addD (mk1 (.int 1)) (mL (callM ps__law_draw.length F__law_draw) (mC (getI 0) (mC (mk1 (.int 4)) (mN))))) (mN)))) (mN))))) (sNil)) (sR (mL (callM ps__law_frac.length F__law_frac) (mC (mB subD (mL (callM ps__law_draw.length F__law_draw) (mC (getI 0) (mC (mk1 (.int 23)) (mN)))) (mk1 (.int 11))) (mC (mB addD (mk1 (.int 1)) (mL (callM ps__law_draw.length F__law_draw) (mC (getI 0) (mC (mk1 (.int 3)) (mN))))) (mN))))))))
def F__law_level : List D → M D := runF 5 n__law_level
theorem sc__law_level : FnScope nn__law_level ps__law_level dd__law_level.scope := ⟨rfl, rfl, rfl, by decide +kernel, rfl, by decide +kernel, by decide +kernel⟩
theorem ok__law_level {P : Program} {w : World} {K : PySem.W.Frag} {mg : Str → Option Value} {base : Heap} {C : Str → Addr} (T : Txt P w K mg base C) (G__law_frac : Fn P w K mg base C dd__law_frac ps__law_frac 1 F__law_frac) (G__law_pick : Fn P w K mg base C dd__law_pick ps__law_pick 2 F__law_pick) (G__law_draw : Fn P w K mg base C dd__law_draw ps__law_draw 1 F__law_draw) (G__law_plus : Fn P w K mg base C dd__law_plus ps__law_plus 2 F__law_plus) {f : Addr} {fd : FuncData} (D : FunD K dd__law_level.name dd__law_level.qual dd__law_level.params dd__law_level.body dd__law_level.scope [] [] f fd) (hm : mg dd__law_level.name = some (.ref f)) : Fn P w K mg base C dd__law_level ps__law_level 3 F__law_level := by
  refine ⟨f, fd, D, hm, D.bindsN (fun _ _ _ _ _ _ us hl => by
    obtain ⟨a0, a1, rfl⟩ := len2 hl
    kernel_rfl), ok_def (d := dd__law_level) (N := nn__law_level) (ps := ps__law_level) (n := n__law_level) D sc__law_level (fun E hK hC cdv A st s H W c hp => ?_)⟩
  subst hC
  exact s_cons (s_par3 c 2 3 4 (va_cons (CE.cv (c_call c G__law_pick (a_cons (c_im 0) (a_cons (c_im 1) (a_nil))))) (va_cons (CE.cv (c_call c G__law_pick (a_cons (c_im 0) (a_cons (c_im 1) (a_nil))))) (va_cons (CE.cv (c_call c G__law_draw (a_cons (c_im 0) (a_cons (c_int) (a_nil))))) (va_nil))))) (s_cons (s_if (t_le (c_im 4) (c_int)) (s_one (s_ret (c_im 2))) (s_nil)) (s_cons (s_if (t_eq c (c_im 4) (c_int)) (s_one (s_ret (c_call c G__law_frac (a_cons (b_add c (b_mul (x_any c (c_im 2) (c_int)) (x_any c (c_im 3) (c_int))) (b_mul (x_any c (c_im 3) (c_int)) (x_any c (c_im 2) (c_int)))) (a_cons (b_mul (b_mul (c_int) (x_any c (c_im 2) (c_int))) (x_any c (c_im 3) (c_int))) (a_nil)))))) (s_nil)) (s_cons (s_if (t_eq c (c_im 4) (c_int)) (s_one (s_ret (c_call c G__law_plus (a_cons (c_im 2) (a_cons (c_tup (a_cons (c_int) (a_cons (b_add c (c_int) (c_call c G__law_draw (a_cons (c_im 0) (a_cons (c_int) (a_nil))))) (a_nil)))) (a_nil)))))) (s_nil)) (s_one (s_ret (c_call c G__law_frac (a_cons (b_sub (c_call c G__law_draw (a_cons (c_im 0) (a_cons (c_int) (a_nil)))) (c_int)) (a_cons (b_add c (c_int) (c_call c G__law_draw (a_cons (c_im 0) (a_cons (c_int) (a_nil))))) (a_nil)))))))))
abbrev nn__law_gate_point : List Str := ["_law_points", "_law_bottom", "_law_field_here", "_law_level_here", "_law_gate", "_law_high", "_law_low", "_law_part", "_law_x", "_law_y"]
def n__law_gate_point : PEnv → M (Fl × PEnv) := seqM (sA (gTup' (gCons' (gN 5) (gCons' (gN 6) (gNil')))) (getI 4)) (seqM (sV 7 (vE (mL (callM ps__law_over.length F__law_over) (mC (mL (callM ps__law_less.length F__law_less) (mC (getI 3) (mC (mB subAny (getI 2) (getI 6)) (mN)))) (mC (mL (callM ps__law_less.length F__law_less) (mC (mB subAny (getI 2) (getI 5)) (mC (mB subAny (getI 2) (getI 6)) (mN)))) (mN)))))) (seqM (sV 8 (vE (mB addD (mB mulD (mB subAny (mB subAny (getI 0) (getI 6)) (mk1 (.int 0))) (mB subAny (getI 7) (mk1 (.int 1)))) (mB mulD (mB subD (mB subAny (mB subAny (getI 0) (getI 5)) (mk1 (.int 0))) (mB subAny (mB subAny (getI 0) (getI 6)) (mk1 (.int 0)))) (mB subAny (getI 7) (mk1 (.int 0))))))) (seqM (sV 9 (vE (mB addD (mB mulD (mB subAny (mB subAny (getI 0) (getI 6)) (mk1 (.int 1))) (mB subAny (getI 7) (mk1 (.int 1)))) (mB mulD (mB subD (mB subAny (mB subAny (getI 0) (getI 5)) (mk1 (.int 1))) (mB subAny (mB subAny (getI 0) (getI 6)) (mk1 (.int 1)))) (mB subAny (getI 7) (mk1 (.int 0))))))) (sR (mL mkTup (mC (mL (callM ps__law_frac.length F__law_frac) (mC (getI 8) (mC (mB mulD (mB subAny (getI 7) (mk1 (.int 1))) (getI 1)) (mN)))) (mC (mL (callM ps__law_frac.length F__law_frac) (mC (getI 9) (mC (mB mulD (mB subAny (getI 7) (mk1 (.int 1))) (getI 1)) (mN)))) (mN))))))))
def F__law_gate_point : List D → M D := runF 10 n__law_gate_point
theorem sc__law_gate_point : FnScope nn__law_gate_point ps__law_gate_point dd__law_gate_point.scope := ⟨rfl, rfl, rfl, by decide +kernel, rfl, by decide +kernel, by decide +kernel⟩
theorem ok__law_gate_point {P : Program} {w : World} {K : PySem.W.Frag} {mg : Str → Option Value} {base : Heap} {C : Str → Addr} (T : Txt P w K mg base C) (G__law_over : Fn P w K mg base C dd__law_over ps__law_over 2 F__law_over) (G__law_less : Fn P w K mg base C dd__law_less ps__law_less 2 F__law_less) (G__law_frac : Fn P w K mg base C dd__law_frac ps__law_frac 1 F__law_frac) {f : Addr} {fd : FuncData} (D : FunD K dd__law_gate_point.name dd__law_gate_point.qual dd__law_gate_point.params dd__law_gate_point.body dd__law_gate_point.scope [] [] f fd) (hm : mg dd__law_gate_point.name = some (.ref f)) : Fn P w K mg base C dd__law_gate_point ps__law_gate_point 3 F__law_gate_point := by
  refine ⟨f, fd, D, hm, D.bindsN (fun _ _ _ _ _ _ us hl => by
    obtain ⟨a0, a1, a2, a3, a4, rfl⟩ := len5 hl
    kernel_rfl), ok_def (d := dd__law_gate_point) (N := nn__law_gate_point) (ps := ps__law_gate_point) (n := n__law_gate_point) D sc__law_gate_point (fun E hK hC cdv A st s H W c hp => ?_)⟩
  subst hC
  exact s_cons (s_asg (c_im 4) (y_tup c (y_cons (y_name c 5) (y_cons (y_name c 6) (y_nil))) (len_cons (len_cons len_nil)))) (s_cons (s_setV c 7 (CE.cv (c_call c G__law_over (a_cons (c_call c G__law_less (a_cons (c_im 3) (a_cons (x_any c (c_im 2) (c_im 6)) (a_nil)))) (a_cons (c_call c G__law_less (a_cons (x_any c (c_im 2) (c_im 5)) (a_cons (x_any c (c_im 2) (c_im 6)) (a_nil)))) (a_nil)))))) (s_cons (s_setV c 8 (CE.cv (b_add c (b_mul (x_any c (x_any c (c_im 0) (c_im 6)) (c_int)) (x_any c (c_im 7) (c_int))) (b_mul (b_sub (x_any c (x_any c (c_im 0) (c_im 5)) (c_int)) (x_any c (x_any c (c_im 0) (c_im 6)) (c_int))) (x_any c (c_im 7) (c_int)))))) (s_cons (s_setV c 9 (CE.cv (b_add c (b_mul (x_any c (x_any c (c_im 0) (c_im 6)) (c_int)) (x_any c (c_im 7) (c_int))) (b_mul (b_sub (x_any c (x_any c (c_im 0) (c_im 5)) (c_int)) (x_any c (x_any c (c_im 0) (c_im 6)) (c_int))) (x_any c (c_im 7) (c_int)))))) (s_one (s_ret (c_tup (a_cons (c_call c G__law_frac (a_cons (c_im 8) (a_cons (b_mul (x_any c (c_im 7) (c_int)) (c_im 1)) (a_nil)))) (a_cons (c_call c G__law_frac (a_cons (c_im 9) (a_cons (b_mul (x_any c (c_im 7) (c_int)) (c_im 1)) (a_nil)))) (a_nil)))))))))
abbrev nn_gates : List Str := ["mesh", "field", "level", "found", "one", "other"]
def n_gates : PEnv → M (Fl × PEnv) := seqM (sV 3 (vF (fL (mN)))) (seqM (sFor (iSq (mL (callM ps_edges_of.length F_edges_of) (mC (getI 0) (mN)))) (gTup' (gCons' (gN 4) (gCons' (gN 5) (gNil')))) (sIf (mT (mB neD (mL (callM ps_is_high.length F_is_high) (mC (getI 1) (mC (getI 2) (mC (getI 4) (mN))))) (mL (callM ps_is_high.length F_is_high) (mC (getI 1) (mC (getI 2) (mC (getI 5) (mN))))))) (appM 3 (mIf (mT (mL (callM ps_is_high.length F_is_high) (mC (getI 1) (mC (getI 2) (mC (getI 4) (mN)))))) (mL mkTup (mC (getI 4) (mC (getI 5) (mN)))) (mL mkTup (mC (getI 5) (mC (getI 4) (mN)))))) (sNil))) (sFz 3 (sR (mL (arg1 fun d => lift (tupleO d)) (mC (mF (fA (fun d => lift (sortAO d)) (getI 3))) mN)))))
def F_gates : List D → M D := runF 6 n_gates
theorem sc_gates : FnScope nn_gates ps_gates dd_gates.scope := ⟨rfl, rfl, rfl, by decide +kernel, rfl, by decide +kernel, by decide +kernel⟩
theorem ok_gates {P : Program} {w : World} {K : PySem.W.Frag} {mg : Str → Option Value} {base : Heap} {C : Str → Addr} (T : Txt P w K mg base C) (G_edges_of : Fn P w K mg base C dd_edges_of ps_edges_of 3 F_edges_of) (G_is_high : Fn P w K mg base C dd_is_high ps_is_high 2 F_is_high) {f : Addr} {fd : FuncData} (D : FunD K dd_gates.name dd_gates.qual dd_gates.params dd_gates.body dd_gates.scope [] [] f fd) (hm : mg dd_gates.name = some (.ref f)) : Fn P w K mg base C dd_gates ps_gates 4 F_gates := by
  refine ⟨f, fd, D, hm, D.bindsN (fun _ _ _ _ _ _ us hl => by
    obtain ⟨a0, a1, a2, rfl⟩ := len3 hl
    kernel_rfl), ok_def (d := dd_gates) (N := nn_gates) (ps := ps_gates) (n := n_gates) D sc_gates (fun E hK hC cdv A st s H W c hp => ?_)⟩
  subst hC
  exact s_cons (s_setV c 3 (CF.cv (f_lst (a_nil)))) (s_cons (s_for c hp (i_seq c (c_call c G_edges_of (a_cons (c_im 0) (a_nil)))) (y_tup c (y_cons (y_name c 4) (y_cons (y_name c 5) (y_nil))) (len_cons (len_cons len_nil))) (s_one (s_if (t_ne c (c_call c G_is_high (a_cons (c_im 1) (a_cons (c_im 2) (a_cons (c_im 4) (a_nil))))) (c_call c G_is_high (a_cons (c_im 1) (a_cons (c_im 2) (a_cons (c_im 5) (a_nil)))))) (s_one (s_append c 3 (c_if (t_val (c_call c G_is_high (a_cons (c_im 1) (a_cons (c_im 2) (a_cons (c_im 4) (a_nil)))))) (c_tup (a_cons (c_im 4) (a_cons (c_im 5) (a_nil)))) (c_tup (a_cons (c_im 5) (a_cons (c_im 4) (a_nil))))))) (s_nil)))) (s_frz 3 (s_one (s_ret (g_tuple c T.tuple (CF.ce (g_sortA c T.sorted (c_im 3))))))))
abbrev nn_gate_point : List Str := ["mesh", "field", "level", "gate", "high", "low", "part"]
def n_gate_point : PEnv → M (Fl × PEnv) := seqM (sA (gTup' (gCons' (gN 4) (gCons' (gN 5) (gNil')))) (getI 3)) (seqM (sV 6 (vE (mL (callM ps_over.length F_over) (mC (mL (callM ps_minus.length F_minus) (mC (getI 2) (mC (mB subAny (getI 1) (getI 5)) (mN)))) (mC (mL (callM ps_minus.length F_minus) (mC (mB subAny (getI 1) (getI 4)) (mC (mB subAny (getI 1) (getI 5)) (mN)))) (mN)))))) (sR (mL (callM ps_moved.length F_moved) (mC (mB subAny (mFld "Mesh" "points" (getI 0)) (getI 5)) (mC (mB subAny (mFld "Mesh" "points" (getI 0)) (getI 4)) (mC (getI 6) (mN)))))))
def F_gate_point : List D → M D := runF 7 n_gate_point
theorem sc_gate_point : FnScope nn_gate_point ps_gate_point dd_gate_point.scope := ⟨rfl, rfl, rfl, by decide +kernel, rfl, by decide +kernel, by decide +kernel⟩
theorem ok_gate_point {P : Program} {w : World} {K : PySem.W.Frag} {mg : Str → Option Value} {base : Heap} {C : Str → Addr} (T : Txt P w K mg base C) (G_over : Fn P w K mg base C dd_over ps_over 2 F_over) (G_moved : Fn P w K mg base C dd_moved ps_moved 3 F_moved) (G_minus : Fn P w K mg base C dd_minus ps_minus 2 F_minus) {f : Addr} {fd : FuncData} (D : FunD K dd_gate_point.name dd_gate_point.qual dd_gate_point.params dd_gate_point.body dd_gate_point.scope [] [] f fd) (hm : mg dd_gate_point.name = some (.ref f)) : Fn P w K mg base C dd_gate_point ps_gate_point 4 F_gate_point := by
  refine ⟨f, fd, D, hm, D.bindsN (fun _ _ _ _ _ _ us hl => by
    obtain ⟨a0, a1, a2, a3, rfl⟩ := len4 hl
    kernel_rfl), ok_def (d := dd_gate_point) (N := nn_gate_point) (ps := ps_gate_point) (n := n_gate_point) D sc_gate_point (fun E hK hC cdv A st s H W c hp => ?_)⟩
  subst hC
  exact s_cons (s_asg (c_im 3) (y_tup c (y_cons (y_name c 4) (y_cons (y_name c 5) (y_nil))) (len_cons (len_cons len_nil)))) (s_cons (s_setV c 6 (CE.cv (c_call c G_over (a_cons (c_call c G_minus (a_cons (c_im 2) (a_cons (x_any c (c_im 1) (c_im 5)) (a_nil)))) (a_cons (c_call c G_minus (a_cons (x_any c (c_im 1) (c_im 4)) (a_cons (x_any c (c_im 1) (c_im 5)) (a_nil)))) (a_nil)))))) (s_one (s_ret (c_call c G_moved (a_cons (x_any c (c_fld "Mesh" T.cl_Mesh T.no_Mesh_points (c_im 0)) (c_im 5)) (a_cons (x_any c (c_fld "Mesh" T.cl_Mesh T.no_Mesh_points (c_im 0)) (c_im 4)) (a_cons (c_im 6) (a_nil))))))))
abbrev nn_regions : List Str := ["mesh", "field", "level", "ties", "one", "other"]
def n_regions : PEnv → M (Fl × PEnv) := seqM (sC 3 (blkM [4, 5] (iSq (mL (callM ps_edges_of.length F_edges_of) (mC (getI 0) (mN)))) (gTup' (gCons' (gN 4) (gCons' (gN 5) (gNil')))) (mT (mB eqD (mL (callM ps_is_high.length F_is_high) (mC (getI 1) (mC (getI 2) (mC (getI 4) (mN))))) (mL (callM ps_is_high.length F_is_high) (mC (getI 1) (mC (getI 2) (mC (getI 5) (mN))))))) (mL mkTup (mC (getI 4) (mC (getI 5) (mN)))))) (sR (mL (callM ps_lots_of.length F_lots_of) (mC (mL (arg1 lenD) (mC (mFld "Mesh" "points" (getI 0)) mN)) (mC (getI 3) (mN)))))
def F_regions : List D → M D := runF 6 n_regions
theorem sc_regions : FnScope nn_regions ps_regions dd_regions.scope := ⟨rfl, rfl, rfl, by decide +kernel, rfl, by decide +kernel, by decide +kernel⟩
theorem ok_regions {P : Program} {w : World} {K : PySem.W.Frag} {mg : Str → Option Value} {base : Heap} {C : Str → Addr} (T : Txt P w K mg base C) (G_lots_of : Fn P w K mg base C dd_lots_of ps_lots_of 1 F_lots_of) (G_edges_of : Fn P w K mg base C dd_edges_of ps_edges_of 3 F_edges_of) (G_is_high : Fn P w K mg base C dd_is_high ps_is_high 2 F_is_high) {f : Addr} {fd : FuncData} (D : FunD K dd_regions.name dd_regions.qual dd_regions.params dd_regions.body dd_regions.scope [] [] f fd) (hm : mg dd_regions.name = some (.ref f)) : Fn P w K mg base C dd_regions ps_regions 4 F_regions := by
  refine ⟨f, fd, D, hm, D.bindsN (fun _ _ _ _ _ _ us hl => by
    obtain ⟨a0, a1, a2, rfl⟩ := len3 hl
    kernel_rfl), ok_def (d := dd_regions) (N := nn_regions) (ps := ps_regions) (n := n_regions) D sc_regions (fun E hK hC cdv A st s H W c hp => ?_)⟩
  subst hC
  exact s_cons (s_setC c 3 [("one", 4), ("other", 5)] (i_seq c (c_call c G_edges_of (a_cons (c_im 0) (a_nil)))) (by rfl) (by decide) (fun s1 H1 a1 l1 p1 => y_tup (c.blk s1 H1 l1 a1 p1) (y_cons (y_name (c.blk s1 H1 l1 a1 p1) 4) (y_cons (y_name (c.blk s1 H1 l1 a1 p1) 5) (y_nil))) (len_cons (len_cons len_nil))) (fun s1 H1 a1 l1 p1 => q_one (t_eq (c.blk s1 H1 l1 a1 p1) (c_call (c.blk s1 H1 l1 a1 p1) G_is_high (a_cons (c_im 1) (a_cons (c_im 2) (a_cons (c_im 4) (a_nil))))) (c_call (c.blk s1 H1 l1 a1 p1) G_is_high (a_cons (c_im 1) (a_cons (c_im 2) (a_cons (c_im 5) (a_nil))))))) (fun s1 H1 a1 l1 p1 => c_tup (a_cons (c_im 4) (a_cons (c_im 5) (a_nil))))) (s_one (s_ret (c_call c G_lots_of (a_cons (g_len c T.len (c_fld "Mesh" T.cl_Mesh T.no_Mesh_points (c_im 0))) (a_cons (c_im 3) (a_nil))))))
abbrev nn__law_mesh : List Str := ["_law_deal_here", "_law_most", "_law_more", "_law_wide", "_law_high", "_law_points", "_law_triangles", "_law_bottom", "_law_turn"]
def n__law_mesh : PEnv → M (Fl × PEnv) := seqM (sA (gTup' (gCons' (gN 3) (gCons' (gN 4) (gNil')))) (mL (callM ps__law_pick.length F__law_pick) (mC (getI 0) (mC (mCut (mF (fL (mC (mL mkTup (mC (mk1 (.int 1)) (mC (mk1 (.int 1)) (mN)))) (mC (mL mkTup (mC (mk1 (.int 2)) (mC (mk1 (.int 1)) (mN)))) (mC (mL mkTup (mC (mk1 (.int 1)) (mC (mk1 (.int 0)) (mN)))) (mC (mL mkTup (mC (mk1 (.int 2)) (mC (mk1 (.int 2)) (mN)))) (mC (mL mkTup (mC (mk1 (.int 3)) (mC (mk1 (.int 2)) (mN)))) (mC (mL mkTup (mC (mk1 (.int 2)) (mC (mk1 (.int 0)) (mN)))) (mN))))))))) (oN) (oS (getI 1))) (mN))))) (seqM (sIf (mT (mB eqD (getI 4) (mk1 (.int 0)))) (seqM (sA (gTup' (gCons' (gN 5) (gCons' (gN 6) (gNil')))) (mL (callM ps__law_ringed.length F__law_ringed) (mC (getI 0) (mC (getI 3) (mN))))) (sV 6 (vE (mL (callM ps__law_cut.length F__law_cut) (mC (getI 0) (mC (getI 6) (mC (mL (callM ps__law_pick.length F__law_pick) (mC (getI 0) (mC (mF (fL (mC (mk1 (.int 0)) (mC (mk1 (.int 0)) (mC (mk1 (.int 1)) (mC (mk1 (.int 2)) (mN))))))) (mN)))) (mN)))))))) (seqM (sA (gTup' (gCons' (gN 5) (gCons' (gN 6) (gNil')))) (mL (callM ps__law_lattice.length F__law_lattice) (mC (getI 0) (mC (getI 3) (mC (getI 4) (mN)))))) (sV 6 (vE (mL (callM ps__law_cut.length F__law_cut) (mC (getI 0) (mC (getI 6) (mC (mL (callM ps__law_draw.length F__law_draw) (mC (getI 0) (mC (mB addD (mk1 (.int 2)) (mB mulD (getI 3) (getI 4))) (mN)))) (mN))))))))) (seqM (sA (gTup' (gCons' (gN 5) (gCons' (gN 6) (gNil')))) (mL (callM ps__law_kept.length F__law_kept) (mC (getI 5) (mC (getI 6) (mN))))) (seqM (sV 7 (vE (mk1 (.int 1)))) (seqM (sFor (iR1 (mL (callM ps__law_draw.length F__law_draw) (mC (getI 0) (mC (mB addD (getI 2) (mk1 (.int 1))) (mN))))) (gN 8) (sA (gTup' (gCons' (gN 7) (gCons' (gN 5) (gCons' (gN 6) (gNil'))))) (mL (callM ps__law_put.length F__law_put) (mC (getI 0) (mC (getI 7) (mC (getI 5) (mC (getI 6) (mN)))))))) (seqM (sA (gTup' (gCons' (gN 5) (gCons' (gN 6) (gNil')))) (mL (callM ps__law_shuffled.length F__law_shuffled) (mC (getI 0) (mC (getI 5) (mC (getI 6) (mN)))))) (sR (mL mkTup (mC (getI 7) (mC (getI 5) (mC (getI 6) (mN)))))))))))
def F__law_mesh : List D → M D := runF 9 n__law_mesh
theorem sc__law_mesh : FnScope nn__law_mesh ps__law_mesh dd__law_mesh.scope := ⟨rfl, rfl, rfl, by decide +kernel, rfl, by decide +kernel, by decide +kernel⟩
theorem ok__law_mesh {P : Program} {w : World} {K : PySem.W.Frag} {mg : Str → Option Value} {base : Heap} {C : Str → Addr} (T : Txt P w K mg base C) (G__law_pick : Fn P w K mg base C dd__law_pick ps__law_pick 2 F__law_pick) (G__law_kept : Fn P w K mg base C dd__law_kept ps__law_kept 1 F__law_kept) (G__law_shuffled : Fn P w K mg base C dd__law_shuffled ps__law_shuffled 2 F__law_shuffled) (G__law_ringed : Fn P w K mg base C dd__law_ringed ps__law_ringed 2 F__law_ringed) (G__law_cut : Fn P w K mg base C dd__law_cut ps__law_cut 3 F__law_cut) (G__law_lattice : Fn P w K mg base C dd__law_lattice ps__law_lattice 3 F__law_lattice) (G__law_draw : Fn P w K mg base C dd__law_draw ps__law_draw 1 F__law_draw) (G__law_put : Fn P w K mg base C dd__law_put ps__law_put 3 F__law_put) {f : Addr} {fd : FuncData} (D : FunD K dd__law_mesh.name dd__law_mesh.qual dd__law_mesh.params dd__law_mesh.body dd__law_mesh.scope [] [] f fd) (hm : mg dd__law_mesh.name = some (.ref f)) : Fn P w K mg base C dd__law_mesh ps__law_mesh 4 F__law_mesh := by
  refine ⟨f, fd, D, hm, D.bindsN (fun _ _ _ _ _ _ us hl => by
    obtain ⟨a0, a1, a2, rfl⟩ := len3 hl
    kernel_rfl), ok_def (d := dd__law_mesh) (N := nn__law_mesh) (ps := ps__law_mesh) (n := n__law_mesh) D sc__law_mesh (fun E hK hC cdv A st s H W c hp => ?_)⟩
  subst hC
  exact s_cons (s_asg (c_call c G__law_pick (a_cons (c_im 0) (a_cons (c_cut c (CF.ce (f_lst (a_cons (c_tup (a_cons (c_int) (a_cons (c_int) (a_nil)))) (a_cons (c_tup (a_cons (c_int) (a_cons (c_int) (a_nil)))) (a_cons (c_tup (a_cons (c_int) (a_cons (c_int) (a_nil)))) (a_cons (c_tup (a_cons (c_int) (a_cons (c_int) (a_nil)))) (a_cons (c_tup (a_cons (c_int) (a_cons (c_int) (a_nil)))) (a_cons (c_tup (a_cons (c_int) (a_cons (c_int) (a_nil)))) (a_nil))))))))) (o_none) (o_some (c_im 1))) (a_nil)))) (y_tup c (y_cons (y_name c 3) (y_cons (y_name c 4) (y_nil))) (len_cons (len_cons len_nil)))) (s_cons (s_if (t_eq c (c_im 4) (c_int)) (s_cons (s_asg (c_call c G__law_ringed (a_cons (c_im 0) (a_cons (c_im 3) (a_nil)))) (y_tup c (y_cons (y_name c 5) (y_cons (y_name c 6) (y_nil))) (len_cons (len_cons len_nil)))) (s_one (s_setV c 6 (CE.cv (c_call c G__law_cut (a_cons (c_im 0) (a_cons (c_im 6) (a_cons (c_call c G__law_pick (a_cons (c_im 0) (a_cons (CF.ce (f_lst (a_cons (c_int) (a_cons (c_int) (a_cons (c_int) (a_cons (c_int) (a_nil))))))) (a_nil)))) (a_nil))))))))) (s_cons (s_asg (c_call c G__law_lattice (a_cons (c_im 0) (a_cons (c_im 3) (a_cons (c_im 4) (a_nil))))) (y_tup c (y_cons (y_name c 5) (y_cons (y_name c 6) (y_nil))) (len_cons (len_cons len_nil)))) (s_one (s_setV c 6 (CE.cv (c_call c G__law_cut (a_cons (c_im 0) (a_cons (c_im 6) (a_cons (c_call c G__law_draw (a_cons (c_im 0) (a_cons (b_add c (c_int) (b_mul (c_im 3) (c_im 4))) (a_nil)))) (a_nil)))))))))) (s_cons (s_asg (c_call c G__law_kept (a_cons (c_im 5) (a_cons (c_im 6) (a_nil)))) (y_tup c (y_cons (y_name c 5) (y_cons (y_name c 6) (y_nil))) (len_cons (len_cons len_nil)))) (s_cons (s_setV c 7 (CE.cv (c_int))) (s_cons (s_for c hp (i_range1 T.range (c_call c G__law_draw (a_cons (c_im 0) (a_cons (b_add c (c_im 2) (c_int)) (a_nil))))) (y_name c 8) (s_one (s_asg (c_call c G__law_put (a_cons (c_im 0) (a_cons (c_im 7) (a_cons (c_im 5) (a_cons (c_im 6) (a_nil)))))) (y_tup c (y_cons (y_name c 7) (y_cons (y_name c 5) (y_cons (y_name c 6) (y_nil)))) (len_cons (len_cons (len_cons len_nil))))))) (s_cons (s_asg (c_call c G__law_shuffled (a_cons (c_im 0) (a_cons (c_im 5) (a_cons (c_im 6) (a_nil))))) (y_tup c (y_cons (y_name c 5) (y_cons (y_name c 6) (y_nil))) (len_cons (len_cons len_nil)))) (s_one (s_ret (c_tup (a_cons (c_im 7) (a_cons (c_im 5) (a_cons (c_im 6) (a_nil))))))))))))
abbrev nn__law_is_right : List Str := ["_law_mesh_here", "_law_bottom", "_law_points", "_law_edges_here", "_law_field_here", "_law_level_here", "_law_highs", "_law_some", "_law_gate", "_law_told", "_law_ties", "_law_at", "_law_pair"]
def n__law_is_right : PEnv → M (Fl × PEnv) := seqM (sV 6 (vE (mF (blkM [11] (iR1 (mL (arg1 lenD) (mC (getI 2) mN))) (gN 11) (aNot (mT (mL (callM ps__law_below.length F__law_below) (mC (mB subAny (getI 4) (getI 11)) (mC (getI 5) (mN)))))) (getI 11))))) (seqM (sIf (mT (mB neD (mL (arg1 fun d => lift (reprO d)) (mC (mKw ps_high_points.length 3 [2, 1, 0] F_high_points (mC (getI 5) (mC (getI 4) (mC (getI 0) (mN))))) mN)) (mL (arg1 fun d => lift (reprO d)) (mC (mL (arg1 fun d => lift (tupleO d)) (mC (getI 6) mN)) mN)))) (sR (mk1 (.bl false))) (sNil)) (seqM (sV 7 (vE (mL (callM ps__law_gates.length F__law_gates) (mC (getI 3) (mC (getI 4) (mC (getI 5) (mN))))))) (seqM (sIf (mT (mB neD (mL (arg1 fun d => lift (reprO d)) (mC (mKw ps_gates.length 3 [1, 0, 2] F_gates (mC (getI 4) (mC (getI 0) (mC (getI 5) (mN))))) mN)) (mL (arg1 fun d => lift (reprO d)) (mC (mL (arg1 fun d => lift (tupleO d)) (mC (getI 7) mN)) mN)))) (sR (mk1 (.bl false))) (sNil)) (seqM (sFor (iSq (getI 7)) (gN 8) (seqM (sV 9 (vE (mKw ps_gate_point.length 4 [1, 3, 2, 0] F_gate_point (mC (getI 8) (mC (getI 0) (mC (getI 5) (mC (getI 4) (mN)))))))) (sIf (mT (mB neD (mL (arg1 fun d => lift (reprO d)) (mC (getI 9) mN)) (mL (arg1 fun d => lift (reprO d)) (mC (mL (callM ps__law_gate_point.length F__law_gate_point) (mC (getI 2) (mC (getI 1) (mC (getI 4) (mC (getI 5) (mC (getI 8) (mN))))))) mN)))) (sR (mk1 (.bl false))) (sNil)))) (seqM (sC 10 (blkM [12] (iSq (getI 3)) (gN 12) (mT (mB eqD (mB inSeqD (mB subAny (getI 12) (mk1 (.int 0))) (getI 6)) (mB inSeqD (mB subAny (getI 12) (mk1 (.int 1))) (getI 6)))) (getI 12))) (sR (mB eqD (mL (arg1 fun d => lift (reprO d)) (mC (mKw ps_regions.length 3 [1, 2, 0] F_regions (mC (getI 5) (mC (getI 0) (mC (getI 4) (mN))))) mN)) (mL (arg1 fun d => lift (reprO d)) (mC (mL (callM ps__law_lots.length F__law_lots) (mC (mL (arg1 lenD) (mC (getI 2) mN)) (mC (getI 10) (mN)))) mN)))))))))
def F__law_is_right : List D → M D := runF 13 n__law_is_right
theorem sc__law_is_right : FnScope nn__law_is_right ps__law_is_right dd__law_is_right.scope := ⟨rfl, rfl, rfl, by decide +kernel, rfl, by decide +kernel, by decide +kernel⟩
theorem ok__law_is_right {P : Program} {w : World} {K : PySem.W.Frag} {mg : Str → Option Value} {base : Heap} {C : Str → Addr} (T : Txt P w K mg base C) (G__law_gates : Fn P w K mg base C dd__law_gates ps__law_gates 2 F__law_gates) (G_gate_point : Fn P w K mg base C dd_gate_point ps_gate_point 4 F_gate_point) (G_high_points : Fn P w K mg base C dd_high_points ps_high_points 3 F_high_points) (G_gates : Fn P w K mg base C dd_gates ps_gates 4 F_gates) (G_regions : Fn P w K mg base C dd_regions ps_regions 4 F_regions) (G__law_lots : Fn P w K mg base C dd__law_lots ps__law_lots 1 F__law_lots) (G__law_below : Fn P w K mg base C dd__law_below ps__law_below 1 F__law_below) (G__law_gate_point : Fn P w K mg base C dd__law_gate_point ps__law_gate_point 3 F__law_gate_point) {f : Addr} {fd : FuncData} (D : FunD K dd__law_is_right.name dd__law_is_right.qual dd__law_is_right.params dd__law_is_right.body dd__law_is_right.scope [] [] f fd) (hm : mg dd__law_is_right.name = some (.ref f)) : Fn P w K mg base C dd__law_is_right ps__law_is_right 5 F__law_is_right := by
  refine ⟨f, fd, D, hm, D.bindsN (fun _ _ _ _ _ _ us hl => by
    obtain ⟨a0, a1, a2, a3, a4, a5, rfl⟩ := len6 hl
    kernel_rfl), ok_def (d := dd__law_is_right) (N := nn__law_is_right) (ps := ps__law_is_right) (n := n__law_is_right) D sc__law_is_right (fun E hK hC cdv A st s H W c hp => ?_)⟩
  subst hC
  exact s_cons (s_setV c 6 (CE.cv (CF.ce (f_comp c [("_law_at", 11)] (i_range1 T.range (g_len c T.len (c_im 2))) (by rfl) (by decide) (fun s1 H1 a1 l1 p1 => y_name (c.blk s1 H1 l1 a1 p1) 11) (fun s1 H1 a1 l1 p1 => q_one (t_not (t_val (c_call (c.blk s1 H1 l1 a1 p1) G__law_below (a_cons (x_any (c.blk s1 H1 l1 a1 p1) (c_im 4) (c_im 11)) (a_cons (c_im 5) (a_nil))))))) (fun s1 H1 a1 l1 p1 => c_im 11))))) (s_cons (s_if (t_ne c (g_repr c T.repr (c_callW (ks := [("level" : Str), ("field" : Str), ("mesh" : Str)]) [2, 1, 0] c G_high_points (k_cons (c_im 5) (k_cons (c_im 4) (k_cons (c_im 0) (k_nil)))) (fun _ _ _ _ _ _ ws hl => match ws, hl with | [_, _, _], _ => rfl))) (g_repr c T.repr (g_tuple c T.tuple (c_im 6)))) (s_one (s_ret (c_bl))) (s_nil)) (s_cons (s_setV c 7 (CE.cv (c_call c G__law_gates (a_cons (c_im 3) (a_cons (c_im 4) (a_cons (c_im 5) (a_nil))))))) (s_cons (s_if (t_ne c (g_repr c T.repr (c_callW (ks := [("field" : Str), ("mesh" : Str), ("level" : Str)]) [1, 0, 2] c G_gates (k_cons (c_im 4) (k_cons (c_im 0) (k_cons (c_im 5) (k_nil)))) (fun _ _ _ _ _ _ ws hl => match ws, hl with | [_, _, _], _ => rfl))) (g_repr c T.repr (g_tuple c T.tuple (c_im 7)))) (s_one (s_ret (c_bl))) (s_nil)) (s_cons (s_for c hp (i_seq c (c_im 7)) (y_name c 8) (s_cons (s_setV c 9 (CE.cv (c_callW (ks := [("gate" : Str), ("mesh" : Str), ("level" : Str), ("field" : Str)]) [1, 3, 2, 0] c G_gate_point (k_cons (c_im 8) (k_cons (c_im 0) (k_cons (c_im 5) (k_cons (c_im 4) (k_nil))))) (fun _ _ _ _ _ _ ws hl => match ws, hl with | [_, _, _, _], _ => rfl)))) (s_one (s_if (t_ne c (g_repr c T.repr (c_im 9)) (g_repr c T.repr (c_call c G__law_gate_point (a_cons (c_im 2) (a_cons (c_im 1) (a_cons (c_im 4) (a_cons (c_im 5) (a_cons (c_im 8) (a_nil))))))))) (s_one (s_ret (c_bl))) (s_nil))))) (s_cons (s_setC c 10 [("_law_pair", 12)] (i_seq c (c_im 3)) (by rfl) (by decide) (fun s1 H1 a1 l1 p1 => y_name (c.blk s1 H1 l1 a1 p1) 12) (fun s1 H1 a1 l1 p1 => q_one (t_eq (c.blk s1 H1 l1 a1 p1) (b_in (c.blk s1 H1 l1 a1 p1) (x_any (c.blk s1 H1 l1 a1 p1) (c_im 12) (c_int)) (c_im 6)) (b_in (c.blk s1 H1 l1 a1 p1) (x_any (c.blk s1 H1 l1 a1 p1) (c_im 12) (c_int)) (c_im 6)))) (fun s1 H1 a1 l1 p1 => c_im 12)) (s_one (s_ret (b_eq c (g_repr c T.repr (c_callW (ks := [("level" : Str), ("mesh" : Str), ("field" : Str)]) [1, 2, 0] c G_regions (k_cons (c_im 5) (k_cons (c_im 0) (k_cons (c_im 4) (k_nil)))) (fun _ _ _ _ _ _ ws hl => match ws, hl with | [_, _, _], _ => rfl))) (g_repr c T.repr (c_call c G__law_lots (a_cons (g_len c T.len (c_im 2)) (a_cons (c_im 10) (a_nil)))))))))))))
end
end LF
end
section
set_option Elab.async false
set_option linter.all false
set_option maxRecDepth 100000
set_option maxHeartbeats 0
namespace LF
open PySem PySem.Spec PyProof.Rows L2 PL
noncomputable section
abbrev nn_law : List Str := ["_law_script", "_law_deal_here", "_law_bottom", "_law_points", "_law_triangles", "_law_mesh_here", "_law_edges_here", "_law_kept_here", "_law_turn", "_law_field_here", "_law_late"]
def n_law1 : PEnv → M (Fl × PEnv) := sV 1 (vE (mL (callM ps__law_deal.length F__law_deal) (mC (getI 0) (mC (mk1 (.int 77)) (mN)))))
def n_law2 : PEnv → M (Fl × PEnv) := seqM (sA (gTup' (gCons' (gN 2) (gCons' (gN 3) (gCons' (gN 4) (gNil'))))) (mL (callM ps__law_mesh.length F__law_mesh) (mC (getI 1) (mC (mk1 (.int 6)) (mC (mk1 (.int 2)) (mN)))))) (seqM (sP2 5 6 (vE (mL (callM ps__law_made.length F__law_made) (mC (getI 2) (mC (getI 3) (mC (getI 4) (mN)))))) (vE (mL (callM ps__law_edges.length F__law_edges) (mC (getI 4) (mN))))) (seqM (sV 7 (vE (mL (arg1 fun d => lift (reprO d)) (mC (mL mkTup (mC (mFld "Mesh" "points" (getI 5)) (mC (mFld "Mesh" "triangles" (getI 5)) (mN)))) mN)))) (seqM (sFor (iR1 (mk1 (.int 2))) (gN 8) (seqM (sV 9 (vE (mL (callM ps__law_field.length F__law_field) (mC (getI 1) (mC (mL (arg1 lenD) (mC (getI 3) mN)) (mN)))))) (sFor (iR1 (mk1 (.int 2))) (gN 10) (sIf (aNot (mT (mL (callM ps__law_is_right.length F__law_is_right) (mC (getI 5) (mC (getI 2) (mC (getI 3) (mC (getI 6) (mC (getI 9) (mC (mL (callM ps__law_level.length F__law_level) (mC (getI 1) (mC (getI 9) (mN)))) (mN)))))))))) (sR (mk1 (.bl false))) (sNil))))) (sR (mB eqD (mL (arg1 fun d => lift (reprO d)) (mC (mL mkTup (mC (mFld "Mesh" "points" (getI 5)) (mC (mFld "Mesh" "triangles" (getI 5)) (mN)))) mN)) (getI 7))))))
theorem sc_law : FnScope nn_law ["_law_script"] dd_law.scope := ⟨rfl, rfl, rfl, by decide +kernel, rfl, by decide +kernel, by decide +kernel⟩
/-- what is left to be shown of plain data -/
def LawEq : Prop := ∀ ns : List Int, ns.length ≤ 63 → ∃ ρ s v ds m r s2, n_law1 (.im (.scr ns) :: List.replicate (nn_law.length - 1) .un) ⟨[], 0⟩ = .ok (.nx, ρ) s ∧ ρ.length = nn_law.length ∧ ρ[1]? = some (.im v) ∧ isDeal v = some (ds, m) ∧ n_law2 ((List.replicate nn_law.length .un).set 1 (.im .deal)) ⟨ds, m⟩ = .ok (.ret (.bl true), r) s2
theorem ok_lawdef {P : Program} {w : World} {K : PySem.W.Frag} {mg : Str → Option Value} {base : Heap} {C : Str → Addr} (T : Txt P w K mg base C) (G__law_deal : Fn P w K mg base C dd__law_deal ps__law_deal 1 F__law_deal) (G__law_mesh : Fn P w K mg base C dd__law_mesh ps__law_mesh 4 F__law_mesh) (G__law_made : Fn P w K mg base C dd__law_made ps__law_made 3 F__law_made) (G__law_edges : Fn P w K mg base C dd__law_edges ps__law_edges 1 F__law_edges) (G__law_field : Fn P w K mg base C dd__law_field ps__law_field 2 F__law_field) (G__law_is_right : Fn P w K mg base C dd__law_is_right ps__law_is_right 5 F__law_is_right) (G__law_level : Fn P w K mg base C dd__law_level ps__law_level 3 F__law_level) {f : Addr} {fd : FuncData} (D : FunD K dd_law.name dd_law.qual dd_law.params dd_law.body dd_law.scope [] [] f fd) (law : LawEq) : GOk P w K mg base 6 f fd ["_law_script"] (spLaw K 63) := by
  refine ok_law (d := dd_law) (N := nn_law) (x := "_law_script") (k := 5) (i := 1) (nn := 63) (C := C) (n1 := n_law1) (n2 := n_law2) D sc_law rfl (fun E hK hC cdv A stk s H W c => ?_) (fun E hK hC cdv A stk s H W c hp => ?_) law
  · subst hC
    exact s_setV c 1 (CE.cv (c_call c G__law_deal (a_cons (c_im 0) (a_cons (c_int) (a_nil)))))
  · subst hC
    exact s_cons (s_asg (c_call c G__law_mesh (a_cons (c_im 1) (a_cons (c_int) (a_cons (c_int) (a_nil))))) (y_tup c (y_cons (y_name c 2) (y_cons (y_name c 3) (y_cons (y_name c 4) (y_nil)))) (len_cons (len_cons (len_cons len_nil))))) (s_cons (s_par2 c 5 6 (CE.cv (c_call c G__law_made (a_cons (c_im 2) (a_cons (c_im 3) (a_cons (c_im 4) (a_nil)))))) (CE.cv (c_call c G__law_edges (a_cons (c_im 4) (a_nil))))) (s_cons (s_setV c 7 (CE.cv (g_repr c T.repr (c_tup (a_cons (c_fld "Mesh" T.cl_Mesh T.no_Mesh_points (c_im 5)) (a_cons (c_fld "Mesh" T.cl_Mesh T.no_Mesh_triangles (c_im 5)) (a_nil))))))) (s_cons (s_for c hp (i_range1 T.range (c_int)) (y_name c 8) (s_cons (s_setV c 9 (CE.cv (c_call c G__law_field (a_cons (c_im 1) (a_cons (g_len c T.len (c_im 3)) (a_nil)))))) (s_one (s_for c hp (i_range1 T.range (c_int)) (y_name c 10) (s_one (s_if (t_not (t_val (c_call c G__law_is_right (a_cons (c_im 5) (a_cons (c_im 2) (a_cons (c_im 3) (a_cons (c_im 6) (a_cons (c_im 9) (a_cons (c_call c G__law_level (a_cons (c_im 1) (a_cons (c_im 9) (a_nil)))) (a_nil)))))))))) (s_one (s_ret (c_bl))) (s_nil))))))) (s_one (s_ret (b_eq c (g_repr c T.repr (c_tup (a_cons (c_fld "Mesh" T.cl_Mesh T.no_Mesh_points (c_im 5)) (a_cons (c_fld "Mesh" T.cl_Mesh T.no_Mesh_triangles (c_im 5)) (a_nil))))) (c_im 7)))))))
abbrev st_MeshI : Stmt := inClass (top 14) 0
def dd_MeshI : He.DefD := ⟨("Mesh", some "__init__"), "__init__", "Mesh.__init__", defArgs st_MeshI, defBody st_MeshI, defScope st_MeshI, [], []⟩
def fn : List He.DefD := [dd_fraction, dd_plus, dd_minus, dd_times, dd_over, dd_compared, dd_moved, dd_ways_round, dd_ways_of, dd_edges_of, dd_is_high, dd_high_points, dd_gates, dd_gate_point, dd_lots_of, dd_regions, dd__law_deal, dd__law_draw, dd__law_pick, dd__law_ways, dd__law_whole, dd__law_lattice, dd__law_ringed, dd__law_cut, dd__law_kept, dd__law_put, dd__law_shuffled, dd__law_mesh, dd__law_frac, dd__law_point, dd__law_least, dd__law_made, dd__law_plus, dd__law_less, dd__law_over, dd__law_below, dd__law_edges, dd__law_field, dd__law_level, dd__law_gates, dd__law_lots, dd__law_gate_point, dd__law_is_right, dd_law, dd_MeshI]
def fa : List He.Fa := [.glo "fraction", .glo "plus", .glo "minus", .glo "times", .glo "over", .glo "compared", .glo "moved", .glo "ways_round", .glo "ways_of", .glo "edges_of", .glo "is_high", .glo "high_points", .glo "gates", .glo "gate_point", .glo "lots_of", .glo "regions", .glo "_law_deal", .glo "_law_draw", .glo "_law_pick", .glo "_law_ways", .glo "_law_whole", .glo "_law_lattice", .glo "_law_ringed", .glo "_law_cut", .glo "_law_kept", .glo "_law_put", .glo "_law_shuffled", .glo "_law_mesh", .glo "_law_frac", .glo "_law_point", .glo "_law_least", .glo "_law_made", .glo "_law_plus", .glo "_law_less", .glo "_law_over", .glo "_law_below", .glo "_law_edges", .glo "_law_field", .glo "_law_level", .glo "_law_gates", .glo "_law_lots", .glo "_law_gate_point", .glo "_law_is_right", .glo "law", .glo "Mesh", .cls "Mesh", .mkr "Mesh", .noat "Mesh" "points", .noat "Mesh" "triangles", .free "len", .free "range", .free "enumerate", .free "zip", .free "sorted", .free "min", .free "max", .free "sum", .free "list", .free "tuple", .free "dict", .free "abs", .free "int", .free "repr"]
def exB (K : PySem.W.Frag) : Bool := He.eqO (PySem.W.nsIn K mainGlobals "gcd") (some (some (.builtin "math.gcd")))
abbrev R : PySem.W.OpenRow := PySem.W.OpenLaw.row PySem.Challenge.rw_leastfield_k77_high_points_gates_and_reg
abbrev hk : PySem.W.Hook := He.hookX 4 fa fn [] [] exB
def ob (s : PySem.W.SharedT) : He.AlX := He.obsX 4 fa fn [] [] exB (HandSHeadRun.getT s)
theorem ob_eq (s : PySem.W.SharedT) : ob s = hk.obs s.abs := He.obsX_eq (HandSHeadRun.getT_eq s)
def names0 : List Str := [("FieldError" : Str), ("InvalidSize" : Str), ("fraction" : Str), ("plus" : Str), ("minus" : Str), ("times" : Str), ("over" : Str), ("compared" : Str), ("moved" : Str), ("Mesh" : Str), ("ways_round" : Str), ("ways_of" : Str), ("edges_of" : Str), ("is_high" : Str), ("high_points" : Str), ("gates" : Str), ("gate_point" : Str), ("lots_of" : Str), ("regions" : Str), ("_law_deal" : Str), ("_law_draw" : Str), ("_law_pick" : Str), ("_law_ways" : Str), ("_law_whole" : Str), ("_law_lattice" : Str), ("_law_ringed" : Str), ("_law_cut" : Str), ("_law_kept" : Str), ("_law_put" : Str), ("_law_shuffled" : Str)]
def names1 : List Str := [("_law_mesh" : Str), ("_law_frac" : Str), ("_law_point" : Str), ("_law_least" : Str), ("_law_made" : Str), ("_law_plus" : Str), ("_law_less" : Str), ("_law_over" : Str), ("_law_below" : Str), ("_law_edges" : Str), ("_law_field" : Str), ("_law_level" : Str), ("_law_gates" : Str), ("_law_lots" : Str), ("_law_gate_point" : Str), ("_law_is_right" : Str)]
def names : List Str := names0 ++ names1
theorem run (w : World) : HandSHeadRun.RunEqI R (PySem.W.view R.prog [0, 53]) hk ob 4000 names w := by
  unfold HandSHeadRun.RunEqI
  kernel_rfl
theorem sc_MeshI : FnScope ["self", "points", "triangles"] ["self", "points", "triangles"] dd_MeshI.scope := ⟨rfl, rfl, rfl, by decide +kernel, rfl, by decide +kernel, by decide +kernel⟩
section
variable {P : Program} {w : World} {K : PySem.W.Frag} {h : Heap} {mg : Str → Option Value}
theorem txt_of {base : Heap} (X : K.In h) (G : h.Ns mainGlobals mg) (c : He.SaysX fa fn [] [] exB w h K) : Txt P w K mg base (He.ga K) := by
  have cd := c.t.d
  have ce : exB K = true := c.more
  unfold exB at ce
  have e0 := ce
  obtain ⟨fd, D⟩ := cd.def_ 44 (d := dd_MeshI) rfl
  have cl := He.cls_ok (cd.fact 45 (f := .cls "Mesh") rfl)
  have n1 := He.noat_ok (cd.fact 47 (f := .noat "Mesh" "points") rfl)
  have n2 := He.noat_ok (cd.fact 48 (f := .noat "Mesh" "triangles") rfl)
  have bI : Binds K fd ["self", "points", "triangles"] [] := D.bindsN (fun _ _ _ _ _ _ us hl => by
    obtain ⟨a0, a1, a2, rfl⟩ := len3 hl
    kernel_rfl)
  have gI : GOk P w K mg base 1 (He.fAd K dd_MeshI.at_) fd ["self", "points", "triangles"] (spInit2 (He.ga K "Mesh") "points" "triangles") := gok_init2 (d := dd_MeshI) (N := []) (ps := []) D sc_MeshI rfl cl n1 n2 (fun _ _ _ _ _ _ => ⟨.inl rfl, .inl rfl, .inl rfl, rfl, rfl⟩) (by decide) (by decide) (by decide)
  exact {
    len := He.free_ok X G (cd.fact 49 (f := .free "len") rfl)
    range := He.free_ok X G (cd.fact 50 (f := .free "range") rfl)
    enumerate := He.free_ok X G (cd.fact 51 (f := .free "enumerate") rfl)
    zip := He.free_ok X G (cd.fact 52 (f := .free "zip") rfl)
    sorted := He.free_ok X G (cd.fact 53 (f := .free "sorted") rfl)
    min := He.free_ok X G (cd.fact 54 (f := .free "min") rfl)
    max := He.free_ok X G (cd.fact 55 (f := .free "max") rfl)
    sum := He.free_ok X G (cd.fact 56 (f := .free "sum") rfl)
    list := He.free_ok X G (cd.fact 57 (f := .free "list") rfl)
    tuple := He.free_ok X G (cd.fact 58 (f := .free "tuple") rfl)
    dict := He.free_ok X G (cd.fact 59 (f := .free "dict") rfl)
    abs := He.free_ok X G (cd.fact 60 (f := .free "abs") rfl)
    int := He.free_ok X G (cd.fact 61 (f := .free "int") rfl)
    repr := He.free_ok X G (cd.fact 62 (f := .free "repr") rfl)
    gcd := PySem.W.mg_of X G (He.eqO_ok e0)
    cl_Mesh := cl
    no_Mesh_points := n1
    no_Mesh_triangles := n2
    rec_Mesh := ⟨⟨_, fd, _, He.mkr_ok (cd.fact 46 (f := .mkr "Mesh") rfl), gI, bI⟩, cl, n1, n2, He.glo_ok X G (cd.fact 44 (f := .glo "Mesh") rfl)⟩ }
theorem facts (X : K.In h) (G : h.Ns mainGlobals mg) (c : He.SaysX fa fn [] [] exB w h K) (law : LawEq) {f : Addr} (hfa : mg ("law" : Str) = some (.ref f)) :
    ∃ fd : FuncData, (∀ (s : Shared) (v : Value), BindsTo s fd ⟨[v], []⟩ [("_law_script", v)]) ∧ ∀ base : Heap, K.In base → base.Ns mainGlobals mg → GOk P w K mg base 6 f fd ["_law_script"] (spLaw K 63) := by
  have cd := c.t.d
  obtain ⟨fd_fraction, D_fraction⟩ := cd.def_ 0 (d := dd_fraction) rfl
  have m_fraction := He.glo_ok X G (cd.fact 0 (f := .glo "fraction") rfl)
  obtain ⟨fd_plus, D_plus⟩ := cd.def_ 1 (d := dd_plus) rfl
  have m_plus := He.glo_ok X G (cd.fact 1 (f := .glo "plus") rfl)
  obtain ⟨fd_minus, D_minus⟩ := cd.def_ 2 (d := dd_minus) rfl
  have m_minus := He.glo_ok X G (cd.fact 2 (f := .glo "minus") rfl)
  obtain ⟨fd_times, D_times⟩ := cd.def_ 3 (d := dd_times) rfl
  have m_times := He.glo_ok X G (cd.fact 3 (f := .glo "times") rfl)
  obtain ⟨fd_over, D_over⟩ := cd.def_ 4 (d := dd_over) rfl
  have m_over := He.glo_ok X G (cd.fact 4 (f := .glo "over") rfl)
  obtain ⟨fd_compared, D_compared⟩ := cd.def_ 5 (d := dd_compared) rfl
  have m_compared := He.glo_ok X G (cd.fact 5 (f := .glo "compared") rfl)
  obtain ⟨fd_moved, D_moved⟩ := cd.def_ 6 (d := dd_moved) rfl
  have m_moved := He.glo_ok X G (cd.fact 6 (f := .glo "moved") rfl)
  obtain ⟨fd_ways_round, D_ways_round⟩ := cd.def_ 7 (d := dd_ways_round) rfl
  have m_ways_round := He.glo_ok X G (cd.fact 7 (f := .glo "ways_round") rfl)
  obtain ⟨fd_ways_of, D_ways_of⟩ := cd.def_ 8 (d := dd_ways_of) rfl
  have m_ways_of := He.glo_ok X G (cd.fact 8 (f := .glo "ways_of") rfl)
  obtain ⟨fd_edges_of, D_edges_of⟩ := cd.def_ 9 (d := dd_edges_of) rfl
  have m_edges_of := He.glo_ok X G (cd.fact 9 (f := .glo "edges_of") rfl)
  obtain ⟨fd_is_high, D_is_high⟩ := cd.def_ 10 (d := dd_is_high) rfl
  have m_is_high := He.glo_ok X G (cd.fact 10 (f := .glo "is_high") rfl)
  obtain ⟨fd_high_points, D_high_points⟩ := cd.def_ 11 (d := dd_high_points) rfl
  have m_high_points := He.glo_ok X G (cd.fact 11 (f := .glo "high_points") rfl)
  obtain ⟨fd_gates, D_gates⟩ := cd.def_ 12 (d := dd_gates) rfl
  have m_gates := He.glo_ok X G (cd.fact 12 (f := .glo "gates") rfl)
  obtain ⟨fd_gate_point, D_gate_point⟩ := cd.def_ 13 (d := dd_gate_point) rfl
  have m_gate_point := He.glo_ok X G (cd.fact 13 (f := .glo "gate_point") rfl)
  obtain ⟨fd_lots_of, D_lots_of⟩ := cd.def_ 14 (d := dd_lots_of) rfl
  have m_lots_of := He.glo_ok X G (cd.fact 14 (f := .glo "lots_of") rfl)
  obtain ⟨fd_regions, D_regions⟩ := cd.def_ 15 (d := dd_regions) rfl
  have m_regions := He.glo_ok X G (cd.fact 15 (f := .glo "regions") rfl)
  obtain ⟨fd__law_deal, D__law_deal⟩ := cd.def_ 16 (d := dd__law_deal) rfl
  have m__law_deal := He.glo_ok X G (cd.fact 16 (f := .glo "_law_deal") rfl)
  obtain ⟨fd__law_draw, D__law_draw⟩ := cd.def_ 17 (d := dd__law_draw) rfl
  have m__law_draw := He.glo_ok X G (cd.fact 17 (f := .glo "_law_draw") rfl)
  obtain ⟨fd__law_pick, D__law_pick⟩ := cd.def_ 18 (d := dd__law_pick) rfl
  have m__law_pick := He.glo_ok X G (cd.fact 18 (f := .glo "_law_pick") rfl)
  obtain ⟨fd__law_ways, D__law_ways⟩ := cd.def_ 19 (d := dd__law_ways) rfl
  have m__law_ways := He.glo_ok X G (cd.fact 19 (f := .glo "_law_ways") rfl)
  obtain ⟨fd__law_whole, D__law_whole⟩ := cd.def_ 20 (d := dd__law_whole) rfl
  have m__law_whole := He.glo_ok X G (cd.fact 20 (f := .glo "_law_whole") rfl)
  obtain ⟨fd__law_lattice, D__law_lattice⟩ := cd.def_ 21 (d := dd__law_lattice) rfl
  have m__law_lattice := He.glo_ok X G (cd.fact 21 (f := .glo "_law_lattice") rfl)
  obtain ⟨fd__law_ringed, D__law_ringed⟩ := cd.def_ 22 (d := dd__law_ringed) rfl
  have m__law_ringed := He.glo_ok X G (cd.fact 22 (f := .glo "_law_ringed") rfl)
  obtain ⟨fd__law_cut, D__law_cut⟩ := cd.def_ 23 (d := dd__law_cut) rfl
  have m__law_cut := He.glo_ok X G (cd.fact 23 (f := .glo "_law_cut") rfl)
  obtain ⟨fd__law_kept, D__law_kept⟩ := cd.def_ 24 (d := dd__law_kept) rfl
  have m__law_kept := He.glo_ok X G (cd.fact 24 (f := .glo "_law_kept") rfl)
  obtain ⟨fd__law_put, D__law_put⟩ := cd.def_ 25 (d := dd__law_put) rfl
  have m__law_put := He.glo_ok X G (cd.fact 25 (f := .glo "_law_put") rfl)
  obtain ⟨fd__law_shuffled, D__law_shuffled⟩ := cd.def_ 26 (d := dd__law_shuffled) rfl
  have m__law_shuffled := He.glo_ok X G (cd.fact 26 (f := .glo "_law_shuffled") rfl)
  obtain ⟨fd__law_mesh, D__law_mesh⟩ := cd.def_ 27 (d := dd__law_mesh) rfl
  have m__law_mesh := He.glo_ok X G (cd.fact 27 (f := .glo "_law_mesh") rfl)
  obtain ⟨fd__law_frac, D__law_frac⟩ := cd.def_ 28 (d := dd__law_frac) rfl
  have m__law_frac := He.glo_ok X G (cd.fact 28 (f := .glo "_law_frac") rfl)
  obtain ⟨fd__law_point, D__law_point⟩ := cd.def_ 29 (d := dd__law_point) rfl
  have m__law_point := He.glo_ok X G (cd.fact 29 (f := .glo "_law_point") rfl)
  obtain ⟨fd__law_least, D__law_least⟩ := cd.def_ 30 (d := dd__law_least) rfl
  have m__law_least := He.glo_ok X G (cd.fact 30 (f := .glo "_law_least") rfl)
  obtain ⟨fd__law_made, D__law_made⟩ := cd.def_ 31 (d := dd__law_made) rfl
  have m__law_made := He.glo_ok X G (cd.fact 31 (f := .glo "_law_made") rfl)
  obtain ⟨fd__law_plus, D__law_plus⟩ := cd.def_ 32 (d := dd__law_plus) rfl
  have m__law_plus := He.glo_ok X G (cd.fact 32 (f := .glo "_law_plus") rfl)
  obtain ⟨fd__law_less, D__law_less⟩ := cd.def_ 33 (d := dd__law_less) rfl
  have m__law_less := He.glo_ok X G (cd.fact 33 (f := .glo "_law_less") rfl)
  obtain ⟨fd__law_over, D__law_over⟩ := cd.def_ 34 (d := dd__law_over) rfl
  have m__law_over := He.glo_ok X G (cd.fact 34 (f := .glo "_law_over") rfl)
  obtain ⟨fd__law_below, D__law_below⟩ := cd.def_ 35 (d := dd__law_below) rfl
  have m__law_below := He.glo_ok X G (cd.fact 35 (f := .glo "_law_below") rfl)
  obtain ⟨fd__law_edges, D__law_edges⟩ := cd.def_ 36 (d := dd__law_edges) rfl
  have m__law_edges := He.glo_ok X G (cd.fact 36 (f := .glo "_law_edges") rfl)
  obtain ⟨fd__law_field, D__law_field⟩ := cd.def_ 37 (d := dd__law_field) rfl
  have m__law_field := He.glo_ok X G (cd.fact 37 (f := .glo "_law_field") rfl)
  obtain ⟨fd__law_level, D__law_level⟩ := cd.def_ 38 (d := dd__law_level) rfl
  have m__law_level := He.glo_ok X G (cd.fact 38 (f := .glo "_law_level") rfl)
  obtain ⟨fd__law_gates, D__law_gates⟩ := cd.def_ 39 (d := dd__law_gates) rfl
  have m__law_gates := He.glo_ok X G (cd.fact 39 (f := .glo "_law_gates") rfl)
  obtain ⟨fd__law_lots, D__law_lots⟩ := cd.def_ 40 (d := dd__law_lots) rfl
  have m__law_lots := He.glo_ok X G (cd.fact 40 (f := .glo "_law_lots") rfl)
  obtain ⟨fd__law_gate_point, D__law_gate_point⟩ := cd.def_ 41 (d := dd__law_gate_point) rfl
  have m__law_gate_point := He.glo_ok X G (cd.fact 41 (f := .glo "_law_gate_point") rfl)
  obtain ⟨fd__law_is_right, D__law_is_right⟩ := cd.def_ 42 (d := dd__law_is_right) rfl
  have m__law_is_right := He.glo_ok X G (cd.fact 42 (f := .glo "_law_is_right") rfl)
  obtain ⟨fd_law, D_law⟩ := cd.def_ 43 (d := dd_law) rfl
  have m_law := He.glo_ok X G (cd.fact 43 (f := .glo "law") rfl)
  have e := hfa.symm.trans m_law
  cases e
  refine ⟨fd_law, fun s v => FunD.bindsA (ps := ["_law_script"]) D_law (fun _ _ _ _ _ _ us hl => by
    obtain ⟨a0, rfl⟩ := len1 hl
    kernel_rfl) s [v] rfl, fun base _ _ => ?_⟩
  have T : Txt P w K mg base (He.ga K) := txt_of X G c
  have G_fraction := ok_fraction T  D_fraction m_fraction
  have G_compared := ok_compared T  D_compared m_compared
  have G_ways_round := ok_ways_round T  D_ways_round m_ways_round
  have G_lots_of := ok_lots_of T  D_lots_of m_lots_of
  have G__law_deal := ok__law_deal T  D__law_deal m__law_deal
  have G__law_draw := ok__law_draw T  D__law_draw m__law_draw
  have G__law_ways := ok__law_ways T  D__law_ways m__law_ways
  have G__law_kept := ok__law_kept T  D__law_kept m__law_kept
  have G__law_frac := ok__law_frac T  D__law_frac m__law_frac
  have G__law_least := ok__law_least T  D__law_least m__law_least
  have G__law_below := ok__law_below T  D__law_below m__law_below
  have G__law_edges := ok__law_edges T  D__law_edges m__law_edges
  have G__law_lots := ok__law_lots T  D__law_lots m__law_lots
  have G_plus := ok_plus T G_fraction D_plus m_plus
  have G_minus := ok_minus T G_fraction D_minus m_minus
  have G_times := ok_times T G_fraction D_times m_times
  have G_over := ok_over T G_fraction D_over m_over
  have G_ways_of := ok_ways_of T G_ways_round D_ways_of m_ways_of
  have G_is_high := ok_is_high T G_compared D_is_high m_is_high
  have G__law_pick := ok__law_pick T G__law_draw D__law_pick m__law_pick
  have G__law_whole := ok__law_whole T G__law_ways D__law_whole m__law_whole
  have G__law_ringed := ok__law_ringed T G__law_draw D__law_ringed m__law_ringed
  have G__law_shuffled := ok__law_shuffled T G__law_draw D__law_shuffled m__law_shuffled
  have G__law_point := ok__law_point T G__law_frac D__law_point m__law_point
  have G__law_plus := ok__law_plus T G__law_frac D__law_plus m__law_plus
  have G__law_less := ok__law_less T G__law_frac D__law_less m__law_less
  have G__law_over := ok__law_over T G__law_frac D__law_over m__law_over
  have G__law_field := ok__law_field T G__law_draw G__law_frac D__law_field m__law_field
  have G__law_gates := ok__law_gates T G__law_below D__law_gates m__law_gates
  have G_moved := ok_moved T G_plus G_times G_minus D_moved m_moved
  have G_edges_of := ok_edges_of T G_ways_of D_edges_of m_edges_of
  have G_high_points := ok_high_points T G_is_high D_high_points m_high_points
  have G__law_lattice := ok__law_lattice T G__law_pick G__law_draw D__law_lattice m__law_lattice
  have G__law_cut := ok__law_cut T G__law_draw G__law_whole D__law_cut m__law_cut
  have G__law_put := ok__law_put T G__law_pick G__law_draw D__law_put m__law_put
  have G__law_made := ok__law_made T G__law_point G__law_least D__law_made m__law_made
  have G__law_level := ok__law_level T G__law_frac G__law_pick G__law_draw G__law_plus D__law_level m__law_level
  have G__law_gate_point := ok__law_gate_point T G__law_over G__law_less G__law_frac D__law_gate_point m__law_gate_point
  have G_gates := ok_gates T G_edges_of G_is_high D_gates m_gates
  have G_gate_point := ok_gate_point T G_over G_moved G_minus D_gate_point m_gate_point
  have G_regions := ok_regions T G_lots_of G_edges_of G_is_high D_regions m_regions
  have G__law_mesh := ok__law_mesh T G__law_pick G__law_kept G__law_shuffled G__law_ringed G__law_cut G__law_lattice G__law_draw G__law_put D__law_mesh m__law_mesh
  have G__law_is_right := ok__law_is_right T G__law_gates G_gate_point G_high_points G_gates G_regions G__law_lots G__law_below G__law_gate_point D__law_is_right m__law_is_right
  exact ok_lawdef T G__law_deal G__law_mesh G__law_made G__law_edges G__law_field G__law_is_right G__law_level D_law law
end
end
end LF
open PySem PySem.W PySem.Calls PyProof.Rows
theorem LF.holds (law : LF.LawEq) : PySem.Challenge.rw_leastfield_k77_high_points_gates_and_reg.Holds := by
  w_on; o_law
  refine HandSHeadRun.head_imp (r := OpenLaw.row PySem.Challenge.rw_leastfield_k77_high_points_gates_and_reg) (q := view (OpenLaw.row PySem.Challenge.rw_leastfield_k77_high_points_gates_and_reg).prog [0, 53]) (H := LF.hk) (ob := LF.ob) (M := 4000) (loose := LF.names) (d := HandSHeadRun.topDef (OpenLaw.row PySem.Challenge.rw_leastfield_k77_high_points_gates_and_reg).prog 53) (kwd := []) LF.ob_eq LF.run
    (by kernel_rfl) (by kernel_rfl) (by kernel_rfl) (by rfl) (by first | assumption | decide +kernel) (by decide +kernel) ⟨rfl, rfl, rfl, rfl, rfl, by decide +kernel⟩ ?hw ?hc
  case hw => w_witness2
  case hc =>
    refine PL.walk_law (l := PySem.Challenge.rw_leastfield_k77_high_points_gates_and_reg) (n := 63) (k := 6) (x := "_law_script") rfl (by decide) (by kernel_rfl) ⟨rfl, by decide, by decide⟩ ?F
    intro w mg fa h Y G hmg0
    obtain ⟨K, KX, c⟩ := Y
    have hmg : mg ("law" : PySem.Str) = some (.ref fa) := by
      have e : (HandSHeadRun.topDef (OpenLaw.row PySem.Challenge.rw_leastfield_k77_high_points_gates_and_reg).prog 53).name = ("law" : PySem.Str) := by kernel_rfl
      rw [← e]
      exact hmg0
    obtain ⟨fd, hb, hF⟩ := LF.facts (P := (PySem.Challenge.rw_leastfield_k77_high_points_gates_and_reg).prog) (w := w) KX G c law hmg
    exact ⟨K, fd, KX, hb, hF⟩
end
section
set_option Elab.async false
set_option linter.all false
/-! PM1: the plain layer's words, reckoned. -/
namespace PL
open PySem
@[simp] theorem mk1_ap {d : D} {ρ : PEnv} : mk1 d ρ = (pure d) := id rfl
@[simp] theorem mB_ap {f : D → D → M D} {a b : PEnv → M D} {ρ : PEnv} : mB f a b ρ = (a ρ >>= fun x => b ρ >>= fun y => f x y) := id rfl
@[simp] theorem mU_ap {f : D → M D} {a : PEnv → M D} {ρ : PEnv} : mU f a ρ = (a ρ >>= f) := id rfl
@[simp] theorem mN_ap {ρ : PEnv} : mN ρ = (pure []) := id rfl
@[simp] theorem mC_ap {a : PEnv → M D} {n : PEnv → M (List D)} {ρ : PEnv} : mC a n ρ = (a ρ >>= fun d => n ρ >>= fun l => pure (d :: l)) := id rfl
@[simp] theorem mL_ap {f : List D → M D} {n : PEnv → M (List D)} {ρ : PEnv} : mL f n ρ = (n ρ >>= f) := id rfl
@[simp] theorem mT_ap {a : PEnv → M D} {ρ : PEnv} : mT a ρ = (a ρ >>= asB) := id rfl
@[simp] theorem vNot_ap {a : PEnv → M D} {ρ : PEnv} : vNot a ρ = ((a ρ >>= asB) >>= fun b => pure (.bl (!b))) := id rfl
@[simp] theorem vAnd_ap {a b : PEnv → M D} {ρ : PEnv} : vAnd a b ρ = ((a ρ >>= asB) >>= fun x => if x then b ρ else pure (.bl false)) := id rfl
@[simp] theorem vOr_ap {a b : PEnv → M D} {ρ : PEnv} : vOr a b ρ = ((a ρ >>= asB) >>= fun x => if x then pure (.bl true) else b ρ) := id rfl
@[simp] theorem mIf_ap {t : PEnv → M Bool} {a b : PEnv → M D} {ρ : PEnv} : mIf t a b ρ = (t ρ >>= fun x => if x then a ρ else b ρ) := id rfl
@[simp] theorem mFld_ap {cn f : Str} {a : PEnv → M D} {ρ : PEnv} : mFld cn f a ρ = (a ρ >>= fun d => lift (fldC cn f d)) := id rfl
@[simp] theorem mCut_ap {a : PEnv → M D} {l h : PEnv → M (Option Int)} {ρ : PEnv} : mCut a l h ρ = (a ρ >>= fun x => l ρ >>= fun p => h ρ >>= fun q => sliceD x p q) := id rfl
@[simp] theorem fCut_ap {a : PEnv → M D} {l h : PEnv → M (Option Int)} {ρ : PEnv} : fCut a l h ρ = (a ρ >>= fun x => l ρ >>= fun p => h ρ >>= fun q => asL x >>= fun zs => pure (cutL zs p q)) := id rfl
@[simp] theorem fCutS_ap {a : PEnv → M D} {l h : PEnv → M (Option Int)} {ρ : PEnv} : fCutS a l h ρ = (a ρ >>= fun x => l ρ >>= fun p => h ρ >>= fun q => lift (asScr x) >>= fun zs => pure (cutL (zs.map D.int) p q)) := id rfl
@[simp] theorem fRev_ap {a : PEnv → M D} {ρ : PEnv} : fRev a ρ = (a ρ >>= fun x => asL x >>= fun l => pure l.reverse) := id rfl
@[simp] theorem oN_ap {ρ : PEnv} : oN ρ = (pure none) := id rfl
@[simp] theorem oS_ap {a : PEnv → M D} {ρ : PEnv} : oS a ρ = (a ρ >>= fun d => asI d >>= fun i => pure (some i)) := id rfl
@[simp] theorem mF_ap {n : PEnv → M (List D)} {ρ : PEnv} : mF n ρ = (n ρ >>= fun l => pure (.lst l)) := id rfl
@[simp] theorem fL_ap {n : PEnv → M (List D)} {ρ : PEnv} : fL n ρ = (n ρ >>= mkLst) := id rfl
@[simp] theorem fRg_ap {a : PEnv → M D} {ρ : PEnv} : fRg a ρ = (a ρ >>= fun d => lift (lrgO d)) := id rfl
@[simp] theorem fA_ap {f : D → M (List D)} {a : PEnv → M D} {ρ : PEnv} : fA f a ρ = ((mC a mN) ρ >>= arg1F f) := id rfl
@[simp] theorem dNew_ap {ρ : PEnv} : dNew ρ = (pure []) := id rfl
@[simp] theorem dDict_ap {a : PEnv → M D} {ρ : PEnv} : dDict a ρ = (a ρ >>= fun d => lift (dictO d)) := id rfl
@[simp] theorem mD_ap {t : Bool} {n : PEnv → M (List (D × D))} {ρ : PEnv} : mD t n ρ = (n ρ >>= fun l => pure (.dic t l)) := id rfl
@[simp] theorem mDealApp_ap {a b : PEnv → M D} {ρ : PEnv} : mDealApp a b ρ = (a ρ >>= fun x => dealAp1 x >>= fun _ => b ρ >>= dealApp) := id rfl
@[simp] theorem mIdx_ap {a b : PEnv → M D} {ρ : PEnv} : mIdx a b ρ = (a ρ >>= fun x => lift (idxAble x) >>= fun _ => b ρ >>= fun y => lift (idxO x y)) := id rfl
@[simp] theorem mGet_ap {a b z : PEnv → M D} {ρ : PEnv} : mGet a b z ρ = (a ρ >>= fun x => lift (isDicO x) >>= fun _ => b ρ >>= fun y => z ρ >>= fun w => getDic x y w) := id rfl
@[simp] theorem mKw_ap {np nk : Nat} {pm : List Nat} {F : List D → M D} {n : PEnv → M (List D)} {ρ : PEnv} : mKw np nk pm F n ρ = (n ρ >>= fun l => lift (if l.length = nk then some () else none) >>= fun _ => callM np F (gP pm l)) := id rfl
@[simp] theorem aAnd_ap {a b : PEnv → M Bool} {ρ : PEnv} : aAnd a b ρ = (a ρ >>= fun x => if x then b ρ else pure false) := id rfl
@[simp] theorem aOr_ap {a b : PEnv → M Bool} {ρ : PEnv} : aOr a b ρ = (a ρ >>= fun x => if x then pure true else b ρ) := id rfl
@[simp] theorem aNot_ap {a : PEnv → M Bool} {ρ : PEnv} : aNot a ρ = (a ρ >>= fun x => pure (!x)) := id rfl
@[simp] theorem aTrue_ap {ρ : PEnv} : aTrue ρ = (pure true) := id rfl
@[simp] theorem iR1_ap {a : PEnv → M D} {ρ : PEnv} : iR1 a ρ = (a ρ >>= fun d => lift (rng1O d)) := id rfl
@[simp] theorem iR2_ap {a b : PEnv → M D} {ρ : PEnv} : iR2 a b ρ = (a ρ >>= fun d => b ρ >>= fun z => lift (rng2O d z)) := id rfl
@[simp] theorem iEn_ap {a : PEnv → M D} {ρ : PEnv} : iEn a ρ = (a ρ >>= fun d => lift (enumO d)) := id rfl
@[simp] theorem iZp_ap {a b : PEnv → M D} {ρ : PEnv} : iZp a b ρ = (a ρ >>= fun d => b ρ >>= fun z => lift (zipO d z)) := id rfl
@[simp] theorem iSq_ap {a : PEnv → M D} {ρ : PEnv} : iSq a ρ = (a ρ >>= fun d => lift (asSeqO d)) := id rfl
@[simp] theorem vD_ap {t : Bool} {n : PEnv → M (List (D × D))} {ρ : PEnv} : vD t n ρ = (n ρ >>= fun l => pure (.md t l)) := id rfl
@[simp] theorem vF_ap {n : PEnv → M (List D)} {ρ : PEnv} : vF n ρ = (n ρ >>= fun l => pure (.mu l)) := id rfl
@[simp] theorem vE_ap {a : PEnv → M D} {ρ : PEnv} : vE a ρ = (a ρ >>= fun d => pure (.im d)) := id rfl
@[simp] theorem vN_ap {ρ : PEnv} : vN ρ = (pure []) := id rfl
@[simp] theorem vC_ap {a : PEnv → M Slot} {n : PEnv → M (List Slot)} {ρ : PEnv} : vC a n ρ = (a ρ >>= fun y => n ρ >>= fun l => pure (y :: l)) := id rfl
@[simp] theorem sV_ap {i : Nat} {n : PEnv → M Slot} {ρ : PEnv} : sV i n ρ = (n ρ >>= fun y => pure (.nx, ρ.set i y)) := id rfl
@[simp] theorem sC_ap {i : Nat} {n : PEnv → M (List D)} {ρ : PEnv} : sC i n ρ = (n ρ >>= fun l => pure (.nx, ρ.set i (.im (.lst l)))) := id rfl
@[simp] theorem sCM_ap {i : Nat} {n : PEnv → M (List D)} {ρ : PEnv} : sCM i n ρ = (n ρ >>= fun l => pure (.nx, ρ.set i (.mu l))) := id rfl
@[simp] theorem sSX_ap {i : Nat} {n : PEnv → M (D × PEnv)} {ρ : PEnv} : sSX i n ρ = (n ρ >>= fun r => pure (.nx, r.2.set i (.im r.1))) := id rfl
@[simp] theorem sAX_ap {g : D → PEnv → Option PEnv} {n : PEnv → M (D × PEnv)} {ρ : PEnv} : sAX g n ρ = (n ρ >>= fun r => lift (g r.1 r.2) >>= fun ρ' => pure (.nx, ρ')) := id rfl
@[simp] theorem sEX_ap {n : PEnv → M (D × PEnv)} {ρ : PEnv} : sEX n ρ = (n ρ >>= fun r => pure (.nx, r.2)) := id rfl
@[simp] theorem sP2_ap {i j : Nat} {a b : PEnv → M Slot} {ρ : PEnv} : sP2 i j a b ρ = (a ρ >>= fun d => b ρ >>= fun e => pure (.nx, (ρ.set i d).set j e)) := id rfl
@[simp] theorem sP3_ap {i j l : Nat} {n : PEnv → M (List Slot)} {ρ : PEnv} : sP3 i j l n ρ = (n ρ >>= fun ys => lift (if ys.length = 3 then some () else none) >>= fun _ => pure (.nx, setAll ρ ([i, j, l].zip ys))) := id rfl
@[simp] theorem sPT_ap {is : List Nat} {n : PEnv → M (List Slot)} {ρ : PEnv} : sPT is n ρ = (n ρ >>= fun ys => lift (if ys.length = is.length ∧ ys.length ≤ sizeLine then some () else none) >>= fun _ => pure (.nx, setAll ρ (is.zip ys))) := id rfl
@[simp] theorem sA_ap {g : D → PEnv → Option PEnv} {m : PEnv → M D} {ρ : PEnv} : sA g m ρ = (m ρ >>= fun d => lift (g d ρ) >>= fun ρ' => pure (.nx, ρ')) := id rfl
@[simp] theorem sDS_ap {a b d : PEnv → M D} {ρ : PEnv} : sDS a b d ρ = (a ρ >>= fun x => b ρ >>= fun y => d ρ >>= fun z => dealSet y z x >>= fun _ => pure (.nx, ρ)) := id rfl
@[simp] theorem sE_ap {m : PEnv → M D} {ρ : PEnv} : sE m ρ = (m ρ >>= fun _ => pure (.nx, ρ)) := id rfl
@[simp] theorem sR_ap {m : PEnv → M D} {ρ : PEnv} : sR m ρ = (m ρ >>= fun d => pure (.ret d, ρ)) := id rfl
@[simp] theorem sRN_ap {ρ : PEnv} : sRN ρ = (pure (.ret .non, ρ)) := id rfl
@[simp] theorem sIf_ap {t : PEnv → M Bool} {a b : PEnv → M (Fl × PEnv)} {ρ : PEnv} : sIf t a b ρ = (t ρ >>= fun x => if x then a ρ else b ρ) := id rfl
@[simp] theorem sFor_ap {n : PEnv → M (List D)} {g : D → PEnv → Option PEnv} {mb : PEnv → M (Fl × PEnv)} {ρ : PEnv} : sFor n g mb ρ = (n ρ >>= fun ds => loopM g mb ds ρ) := id rfl
@[simp] theorem sWh_ap {k : Nat} {t : PEnv → M Bool} {mb : PEnv → M (Fl × PEnv)} {ρ : PEnv} : sWh k t mb ρ = (whileM t mb k ρ) := id rfl
@[simp] theorem sNil_ap {ρ : PEnv} : sNil ρ = (pure (.nx, ρ)) := id rfl
@[simp] theorem sPass_ap {ρ : PEnv} : sPass ρ = (pure (.nx, ρ)) := id rfl
@[simp] theorem sBrk_ap {ρ : PEnv} : sBrk ρ = (pure (.brk, ρ)) := id rfl
@[simp] theorem sCt_ap {ρ : PEnv} : sCt ρ = (pure (.ct, ρ)) := id rfl
@[simp] theorem sNv_ap {ρ : PEnv} : sNv ρ = (fail) := id rfl
@[simp] theorem sFz_ap {i : Nat} {n : PEnv → M (Fl × PEnv)} {ρ : PEnv} : sFz i n ρ = (n (frz i ρ)) := id rfl
@[simp] theorem seqM_ap {n n2 : PEnv → M (Fl × PEnv)} {ρ : PEnv} : seqM n n2 ρ = (n ρ >>= fun r => match r.1 with
  | .nx => n2 r.2
  | _ => pure r) := rfl
@[simp] theorem getI_zero (d : D) (l : PEnv) : getI 0 (.im d :: l) = pure d := id rfl
@[simp] theorem getI_succ (i : Nat) (x : Slot) (l : PEnv) : getI (i + 1) (x :: l) = getI i l := by
  unfold getI
  rw [List.getElem?_cons_succ]
@[simp] theorem getS_zero (d : D) (l : PEnv) : getS 0 (.im d :: l) = pure d := id rfl
@[simp] theorem getS_mu (d : List D) (l : PEnv) : getS 0 (.mu d :: l) = pure (.lst d) := id rfl
@[simp] theorem getS_md (t : Bool) (d : List (D × D)) (l : PEnv) : getS 0 (.md t d :: l) = pure (.dic t d) := id rfl
@[simp] theorem getS_succ (i : Nat) (x : Slot) (l : PEnv) : getS (i + 1) (x :: l) = getS i l := by
  unfold getS
  rw [List.getElem?_cons_succ]
@[simp] theorem addD_int (i j : Int) : addD (.int i) (.int j) = pure (.int (i + j)) := id rfl
@[simp] theorem subD_int (i j : Int) : subD (.int i) (.int j) = pure (.int (i - j)) := id rfl
theorem mulD_int {i j : Int} (h : mulOk i j = true) : mulD (.int i) (.int j) = pure (.int (i * j)) := if_pos (c := mulOk i j = true) h
theorem fdivD_int {i j : Int} (h : divOk j = true) : fdivD (.int i) (.int j) = pure (.int (i.fdiv j)) := if_pos (c := divOk j = true) h
theorem modD_int {i j : Int} (h : j ≠ 0) : modD (.int i) (.int j) = pure (.int (i.fmod j)) := if_pos (c := j ≠ 0) h
@[simp] theorem negD_int (i : Int) : negD (.int i) = pure (.int (-i)) := id rfl
@[simp] theorem ltD_int (i j : Int) : ltD (.int i) (.int j) = pure (.bl (decide (i < j))) := id rfl
@[simp] theorem leD_int (i j : Int) : leD (.int i) (.int j) = pure (.bl (decide (i ≤ j))) := id rfl
@[simp] theorem gtD_int (i j : Int) : gtD (.int i) (.int j) = pure (.bl (decide (j < i))) := id rfl
@[simp] theorem geD_int (i j : Int) : geD (.int i) (.int j) = pure (.bl (decide (j ≤ i))) := id rfl
theorem shaped_int (i : Int) : SeqAt.shaped (.int i) = true := by
  show ((PyData.int i).canLay0 && decide ((PyData.int i).depth ≤ 64)) = true
  simp [PyData.canLay0, PyData.depth]
@[simp] theorem eqD_int (i j : Int) : eqD (.int i) (.int j) = pure (.bl (decide (i = j))) := by
  unfold eqD eqB
  simp only [toPy, shaped_int, Bool.and_self, if_true, pure_bind']
  congr 2
@[simp] theorem neD_int (i j : Int) : neD (.int i) (.int j) = pure (.bl (!decide (i = j))) := by
  unfold neD eqB
  simp only [toPy, shaped_int, Bool.and_self, if_true, pure_bind']
  congr 2
@[simp] theorem asB_bl (b : Bool) : asB (.bl b) = pure b := id rfl
@[simp] theorem lift_ite_some {α : Type} (p : Prop) [Decidable p] (a : α) (h : p) : lift (if p then some a else none) = pure a := by rw [if_pos h]; rfl
theorem mkTup_ok {l : List D} (h : l.length ≤ 1000) : mkTup l = pure (.tup false l) := by
  unfold mkTup
  rw [if_pos]
  exact Nat.le_trans h (by decide)
theorem mkTupB_ok {l : List D} (h : l.length ≤ 1000) : mkTupB l = pure (.tup true l) := by
  unfold mkTupB
  rw [if_pos]
  exact Nat.le_trans h (by decide)
theorem mkLst_ok {l : List D} (h : l.length ≤ 1000) : mkLst l = pure l := by
  unfold mkLst
  rw [if_pos]
  exact Nat.le_trans h (by decide)
theorem gcd_int (i j : Int) : (arg2 fun a b => lift (gcdO a b)) [.int i, .int j] = pure (.int ((Nat.gcd i.natAbs j.natAbs : Nat) : Int)) := id rfl
theorem abs_int (i : Int) : (arg1 fun d => lift (absO d)) [.int i] = pure (.int (if i < 0 then -i else i)) := id rfl
theorem int_int (i : Int) : (arg1 fun d => lift (intO d)) [.int i] = pure (.int i) := id rfl
theorem len_lst (l : List D) : (arg1 lenD) [.lst l] = pure (.int l.length) := id rfl
theorem len_tup (k : Bool) (l : List D) : (arg1 lenD) [.tup k l] = pure (.int l.length) := id rfl
theorem callM_ok {n : Nat} {F : List D → M D} {l : List D} (h : l.length = n) : callM n F l = F l := by unfold callM; rw [if_pos h]; rfl
theorem subAny_tup {k : Bool} {l : List D} {i : Nat} {d : D} (h : l[i]? = some d) : subAny (.tup k l) (.int (i : Int)) = pure d := by
  show lift (L2.atI l (i : Int)) = _
  rw [L2.atI_nat h]
  rfl
theorem subAny_lst {l : List D} {i : Nat} {d : D} (h : l[i]? = some d) : subAny (.lst l) (.int (i : Int)) = pure d := by
  show lift (L2.atI l (i : Int)) = _
  rw [L2.atI_nat h]
  rfl
@[simp] theorem sub_t0 (k : Bool) (a : D) (l : List D) : subAny (.tup k (a :: l)) (.int 0) = pure a := subAny_tup (i := 0) rfl
@[simp] theorem sub_t1 (k : Bool) (a b : D) (l : List D) : subAny (.tup k (a :: b :: l)) (.int 1) = pure b := subAny_tup (i := 1) rfl
@[simp] theorem sub_t2 (k : Bool) (a b c : D) (l : List D) : subAny (.tup k (a :: b :: c :: l)) (.int 2) = pure c := subAny_tup (i := 2) rfl
end PL
end
section
set_option Elab.async false
set_option linter.all false
/-! PW: the plain layer by what holds behind it. -/
namespace PL
open PySem L2
inductive wp {α : Type} : Out α → (α → Dl → Prop) → Prop
  | mk {a : α} {s : Dl} {Q : α → Dl → Prop} : Q a s → wp (.ok a s) Q
theorem wp_mono {α : Type} {r : Out α} {Q Q' : α → Dl → Prop} (h : wp r Q) (k : ∀ a s, Q a s → Q' a s) : wp r Q' := by
  cases h with
  | mk h => exact .mk (k _ _ h)
theorem wp_get {α : Type} {r : Out α} {Q : α → Dl → Prop} (h : wp r Q) : ∃ a s, r = .ok a s ∧ Q a s := by
  cases h with
  | mk h => exact ⟨_, _, rfl, h⟩
@[simp] theorem wp_ok {α : Type} {a : α} {s : Dl} {Q : α → Dl → Prop} : wp (.ok a s) Q = Q a s :=
  propext ⟨fun h => by cases h with | mk h => exact h, .mk⟩
@[simp] theorem wp_exc {α : Type} {c : Str} {l : List D} {s : Dl} {Q : α → Dl → Prop} : wp (.exc c l s) Q = False :=
  propext ⟨fun h => (nomatch h), False.elim⟩
@[simp] theorem wp_bad {α : Type} {Q : α → Dl → Prop} : wp .bad Q = False :=
  propext ⟨fun h => (nomatch h), False.elim⟩
@[simp] theorem wp_pure {α : Type} {a : α} {s : Dl} {Q : α → Dl → Prop} : wp ((pure a : M α) s) Q = Q a s := wp_ok
theorem wp_bind {α β : Type} {m : M α} {f : α → M β} {s : Dl} {Q : β → Dl → Prop} : wp ((m >>= f) s) Q = wp (m s) (fun a s' => wp (f a s') Q) := by
  rw [bind_run]
  cases m s with
  | ok a s' => rw [wp_ok]
  | exc c l s' => rw [wp_exc, wp_exc]
  | bad => rw [wp_bad, wp_bad]
theorem wp_liftB {α β : Type} {o : Option α} {f : α → M β} {s : Dl} {Q : β → Dl → Prop} : wp ((lift o >>= f) s) Q = ∃ a, o = some a ∧ wp (f a s) Q := by
  cases o with
  | none => rw [lift_none, fail_bind, fail_run, wp_bad]; exact propext ⟨False.elim, fun ⟨_, h, _⟩ => (nomatch h)⟩
  | some a => rw [lift_some, pure_bind']; exact propext ⟨fun h => ⟨a, rfl, h⟩, fun ⟨_, e, h⟩ => by cases e; exact h⟩
theorem if_some {p : Prop} [Decidable p] : (∃ a : Unit, (if p then some () else none) = some a) ↔ p := by
  by_cases h : p
  · rw [if_pos h]; exact ⟨fun _ => h, fun _ => ⟨(), rfl⟩⟩
  · rw [if_neg h]; exact ⟨fun ⟨_, e⟩ => (nomatch e), fun q => absurd q h⟩
theorem wp_liftI {β : Type} {p : Prop} [Decidable p] {f : Unit → M β} {s : Dl} {Q : β → Dl → Prop} : wp ((lift (if p then some () else none) >>= f) s) Q = (p ∧ wp (f () s) Q) := by
  rw [wp_liftB]
  by_cases h : p
  · rw [if_pos h]; exact propext ⟨fun ⟨_, _, q⟩ => ⟨h, q⟩, fun q => ⟨(), rfl, q.2⟩⟩
  · rw [if_neg h]; exact propext ⟨fun ⟨_, e, _⟩ => (nomatch e), fun q => absurd q.1 h⟩
/-- a call inside -/
theorem wp_call {α β : Type} {m : M α} {f : α → M β} {s : Dl} {R : α → Dl → Prop} {Q : β → Dl → Prop} (h : wp (m s) R) (k : ∀ a s', R a s' → wp (f a s') Q) : wp ((m >>= f) s) Q := by
  rw [wp_bind]
  exact wp_mono h k
theorem wp_eq {α β : Type} {m : M α} {f : α → M β} {s s' : Dl} {a : α} {Q : β → Dl → Prop} (h : m s = .ok a s') (k : wp (f a s') Q) : wp ((m >>= f) s) Q := by
  rw [wp_bind, h, wp_ok]
  exact k
theorem wp_iteB {α β : Type} {p : Prop} [Decidable p] {x y : M α} {f : α → M β} {s : Dl} {Q : β → Dl → Prop} (h1 : p → wp ((x >>= f) s) Q) (h2 : ¬ p → wp ((y >>= f) s) Q) : wp (((if p then x else y) >>= f) s) Q := by
  by_cases h : p
  · rw [if_pos h]; exact h1 h
  · rw [if_neg h]; exact h2 h
theorem wp_ite {α : Type} {p : Prop} [Decidable p] {x y : M α} {s : Dl} {Q : α → Dl → Prop} (h1 : p → wp (x s) Q) (h2 : ¬ p → wp (y s) Q) : wp ((if p then x else y) s) Q := by
  by_cases h : p
  · rw [if_pos h]; exact h1 h
  · rw [if_neg h]; exact h2 h
/-! what is behind a piece, by names that simp does not enter -/
abbrev Post := Fl → PEnv → Dl → Prop
def wpS (n : PEnv → M (Fl × PEnv)) (ρ : PEnv) (s : Dl) (Q : Post) : Prop := wp (n ρ s) (fun r s' => Q r.1 r.2 s')
def kSeq (n : PEnv → M (Fl × PEnv)) (Q : Post) : Post := fun f ρ s => match f with
  | .nx => wpS n ρ s Q
  | f => Q f ρ s
@[simp] theorem wpS_seq {n n2 : PEnv → M (Fl × PEnv)} {ρ : PEnv} {s : Dl} {Q : Post} : wpS (seqM n n2) ρ s Q = wpS n ρ s (kSeq n2 Q) := by
  unfold wpS seqM
  rw [wp_bind]
  cases n ρ s with
  | ok a s' =>
    obtain ⟨f, ρ'⟩ := a
    rw [wp_ok, wp_ok]
    cases f
    · rfl
    all_goals exact wp_ok
  | exc _ _ _ => rw [wp_exc, wp_exc]
  | bad => rw [wp_bad, wp_bad]
@[simp] theorem kSeq_nx {n : PEnv → M (Fl × PEnv)} {Q : Post} {ρ : PEnv} {s : Dl} : kSeq n Q .nx ρ s = wpS n ρ s Q := id rfl
@[simp] theorem kSeq_ct {n : PEnv → M (Fl × PEnv)} {Q : Post} {ρ : PEnv} {s : Dl} : kSeq n Q .ct ρ s = Q .ct ρ s := id rfl
@[simp] theorem kSeq_brk {n : PEnv → M (Fl × PEnv)} {Q : Post} {ρ : PEnv} {s : Dl} : kSeq n Q .brk ρ s = Q .brk ρ s := id rfl
@[simp] theorem kSeq_ret {n : PEnv → M (Fl × PEnv)} {Q : Post} {d : D} {ρ : PEnv} {s : Dl} : kSeq n Q (.ret d) ρ s = Q (.ret d) ρ s := id rfl
def kIf (a b : PEnv → M (Fl × PEnv)) (ρ : PEnv) (Q : Post) : Bool → Dl → Prop := fun x s => match x with
  | true => wpS a ρ s Q
  | false => wpS b ρ s Q
@[simp] theorem wpS_if {t : PEnv → M Bool} {a b : PEnv → M (Fl × PEnv)} {ρ : PEnv} {s : Dl} {Q : Post} : wpS (sIf t a b) ρ s Q = wp (t ρ s) (kIf a b ρ Q) := by
  unfold wpS sIf
  rw [wp_bind]
  congr 1
  funext x s'
  cases x <;> rfl
@[simp] theorem kIf_true {a b : PEnv → M (Fl × PEnv)} {ρ : PEnv} {Q : Post} {s : Dl} : kIf a b ρ Q true s = wpS a ρ s Q := id rfl
@[simp] theorem kIf_false {a b : PEnv → M (Fl × PEnv)} {ρ : PEnv} {Q : Post} {s : Dl} : kIf a b ρ Q false s = wpS b ρ s Q := id rfl
theorem kIf_b {a b : PEnv → M (Fl × PEnv)} {ρ : PEnv} {Q : Post} {s : Dl} {x : Bool} (h1 : x = true → wpS a ρ s Q) (h2 : x = false → wpS b ρ s Q) : kIf a b ρ Q x s := by
  cases x
  · exact h2 rfl
  · exact h1 rfl
theorem kIf_d {a b : PEnv → M (Fl × PEnv)} {ρ : PEnv} {Q : Post} {s : Dl} {p : Prop} [Decidable p] (h1 : p → wpS a ρ s Q) (h2 : ¬ p → wpS b ρ s Q) : kIf a b ρ Q (decide p) s :=
  kIf_b (fun h => h1 (of_decide_eq_true h)) (fun h => h2 (of_decide_eq_false h))
def kV (i : Nat) (ρ : PEnv) (Q : Post) : Slot → Dl → Prop := fun y s => Q .nx (ρ.set i y) s
@[simp] theorem kV_ap {i : Nat} {ρ : PEnv} {Q : Post} {y : Slot} {s : Dl} : kV i ρ Q y s = Q .nx (ρ.set i y) s := id rfl
@[simp] theorem wpS_V {i : Nat} {n : PEnv → M Slot} {ρ : PEnv} {s : Dl} {Q : Post} : wpS (sV i n) ρ s Q = wp (n ρ s) (kV i ρ Q) := by
  unfold wpS sV
  simp only [wp_bind, wp_pure]
  rfl
def kE (K : Slot → Dl → Prop) : D → Dl → Prop := fun d s => K (.im d) s
@[simp] theorem kE_ap {K : Slot → Dl → Prop} {d : D} {s : Dl} : kE K d s = K (.im d) s := id rfl
@[simp] theorem wp_E {a : PEnv → M D} {ρ : PEnv} {s : Dl} {K : Slot → Dl → Prop} : wp (vE a ρ s) K = wp (a ρ s) (kE K) := by
  rw [show vE a ρ = (a ρ >>= fun d => pure (.im d)) from rfl, wp_bind]
  simp only [wp_pure]
  rfl
def kF (K : Slot → Dl → Prop) : List D → Dl → Prop := fun d s => K (.mu d) s
@[simp] theorem kF_ap {K : Slot → Dl → Prop} {d : List D} {s : Dl} : kF K d s = K (.mu d) s := id rfl
@[simp] theorem wp_F {a : PEnv → M (List D)} {ρ : PEnv} {s : Dl} {K : Slot → Dl → Prop} : wp (vF a ρ s) K = wp (a ρ s) (kF K) := by
  rw [show vF a ρ = (a ρ >>= fun d => pure (.mu d)) from rfl, wp_bind]
  simp only [wp_pure]
  rfl
def kD (t : Bool) (K : Slot → Dl → Prop) : List (D × D) → Dl → Prop := fun d s => K (.md t d) s
@[simp] theorem kD_ap {t : Bool} {K : Slot → Dl → Prop} {d : List (D × D)} {s : Dl} : kD t K d s = K (.md t d) s := id rfl
@[simp] theorem wp_D {t : Bool} {a : PEnv → M (List (D × D))} {ρ : PEnv} {s : Dl} {K : Slot → Dl → Prop} : wp (vD t a ρ s) K = wp (a ρ s) (kD t K) := by
  rw [show vD t a ρ = (a ρ >>= fun d => pure (.md t d)) from rfl, wp_bind]
  simp only [wp_pure]
  rfl
def kC (i : Nat) (ρ : PEnv) (Q : Post) : List D → Dl → Prop := fun l s => Q .nx (ρ.set i (.im (.lst l))) s
@[simp] theorem kC_ap {i : Nat} {ρ : PEnv} {Q : Post} {l : List D} {s : Dl} : kC i ρ Q l s = Q .nx (ρ.set i (.im (.lst l))) s := id rfl
@[simp] theorem wpS_C {i : Nat} {n : PEnv → M (List D)} {ρ : PEnv} {s : Dl} {Q : Post} : wpS (sC i n) ρ s Q = wp (n ρ s) (kC i ρ Q) := by
  unfold wpS sC
  simp only [wp_bind, wp_pure]
  rfl
def kCM (i : Nat) (ρ : PEnv) (Q : Post) : List D → Dl → Prop := fun l s => Q .nx (ρ.set i (.mu l)) s
@[simp] theorem kCM_ap {i : Nat} {ρ : PEnv} {Q : Post} {l : List D} {s : Dl} : kCM i ρ Q l s = Q .nx (ρ.set i (.mu l)) s := id rfl
@[simp] theorem wpS_CM {i : Nat} {n : PEnv → M (List D)} {ρ : PEnv} {s : Dl} {Q : Post} : wpS (sCM i n) ρ s Q = wp (n ρ s) (kCM i ρ Q) := by
  unfold wpS sCM
  simp only [wp_bind, wp_pure]
  rfl
def kP1 (b : PEnv → M Slot) (i j : Nat) (ρ : PEnv) (Q : Post) : Slot → Dl → Prop := fun y s => wp (b ρ s) (fun z s' => Q .nx ((ρ.set i y).set j z) s')
def kP2 (i j : Nat) (ρ : PEnv) (Q : Post) (y : Slot) : Slot → Dl → Prop := fun z s' => Q .nx ((ρ.set i y).set j z) s'
@[simp] theorem kP1_ap {b : PEnv → M Slot} {i j : Nat} {ρ : PEnv} {Q : Post} {y : Slot} {s : Dl} : kP1 b i j ρ Q y s = wp (b ρ s) (kP2 i j ρ Q y) := id rfl
@[simp] theorem kP2_ap {i j : Nat} {ρ : PEnv} {Q : Post} {y z : Slot} {s : Dl} : kP2 i j ρ Q y z s = Q .nx ((ρ.set i y).set j z) s := id rfl
@[simp] theorem wpS_P2 {i j : Nat} {a b : PEnv → M Slot} {ρ : PEnv} {s : Dl} {Q : Post} : wpS (sP2 i j a b) ρ s Q = wp (a ρ s) (kP1 b i j ρ Q) := by
  unfold wpS sP2
  rw [wp_bind]
  congr 1
  funext y s'
  simp only [wp_bind, wp_pure]
  rfl
def kP3 (i j l : Nat) (ρ : PEnv) (Q : Post) : List Slot → Dl → Prop := fun ys s => ys.length = 3 ∧ Q .nx (setAll ρ ([i, j, l].zip ys)) s
@[simp] theorem kP3_ap {i j l : Nat} {ρ : PEnv} {Q : Post} {x y z : Slot} {s : Dl} : kP3 i j l ρ Q [x, y, z] s = Q .nx (((ρ.set i x).set j y).set l z) s := by
  unfold kP3
  exact propext ⟨fun h => h.2, fun h => ⟨rfl, h⟩⟩
@[simp] theorem wpS_P3 {i j l : Nat} {n : PEnv → M (List Slot)} {ρ : PEnv} {s : Dl} {Q : Post} : wpS (sP3 i j l n) ρ s Q = wp (n ρ s) (kP3 i j l ρ Q) := by
  unfold wpS sP3
  rw [wp_bind]
  congr 1
  funext ys s'
  rw [wp_liftI, wp_pure]
  rfl
def kPT (is : List Nat) (ρ : PEnv) (Q : Post) : List Slot → Dl → Prop := fun ys s => (ys.length = is.length ∧ ys.length ≤ sizeLine) ∧ Q .nx (setAll ρ (is.zip ys)) s
@[simp] theorem wpS_PT {is : List Nat} {n : PEnv → M (List Slot)} {ρ : PEnv} {s : Dl} {Q : Post} : wpS (sPT is n) ρ s Q = wp (n ρ s) (kPT is ρ Q) := by
  unfold wpS sPT
  rw [wp_bind]
  congr 1
  funext ys s'
  rw [wp_liftI, wp_pure]
  rfl
def kA (g : D → PEnv → Option PEnv) (ρ : PEnv) (Q : Post) : D → Dl → Prop := fun d s => ∃ ρ', g d ρ = some ρ' ∧ Q .nx ρ' s
@[simp] theorem wpS_A {g : D → PEnv → Option PEnv} {m : PEnv → M D} {ρ : PEnv} {s : Dl} {Q : Post} : wpS (sA g m) ρ s Q = wp (m ρ s) (kA g ρ Q) := by
  unfold wpS sA
  rw [wp_bind]
  congr 1
  funext d s'
  rw [wp_liftB]
  simp only [wp_pure]
  rfl
def kX (ρ : PEnv) (Q : Post) : D → Dl → Prop := fun _ s => Q .nx ρ s
@[simp] theorem kX_ap {ρ : PEnv} {Q : Post} {d : D} {s : Dl} : kX ρ Q d s = Q .nx ρ s := id rfl
@[simp] theorem wpS_E {m : PEnv → M D} {ρ : PEnv} {s : Dl} {Q : Post} : wpS (sE m) ρ s Q = wp (m ρ s) (kX ρ Q) := by
  unfold wpS sE
  simp only [wp_bind, wp_pure]
  rfl
def kR (ρ : PEnv) (Q : Post) : D → Dl → Prop := fun d s => Q (.ret d) ρ s
@[simp] theorem kR_ap {ρ : PEnv} {Q : Post} {d : D} {s : Dl} : kR ρ Q d s = Q (.ret d) ρ s := id rfl
@[simp] theorem wpS_R {m : PEnv → M D} {ρ : PEnv} {s : Dl} {Q : Post} : wpS (sR m) ρ s Q = wp (m ρ s) (kR ρ Q) := by
  unfold wpS sR
  simp only [wp_bind, wp_pure]
  rfl
@[simp] theorem wpS_RN {ρ : PEnv} {s : Dl} {Q : Post} : wpS sRN ρ s Q = Q (.ret .non) ρ s := wp_ok
@[simp] theorem wpS_Nil {ρ : PEnv} {s : Dl} {Q : Post} : wpS sNil ρ s Q = Q .nx ρ s := wp_ok
@[simp] theorem wpS_Pass {ρ : PEnv} {s : Dl} {Q : Post} : wpS sPass ρ s Q = Q .nx ρ s := wp_ok
@[simp] theorem wpS_Brk {ρ : PEnv} {s : Dl} {Q : Post} : wpS sBrk ρ s Q = Q .brk ρ s := wp_ok
@[simp] theorem wpS_Ct {ρ : PEnv} {s : Dl} {Q : Post} : wpS sCt ρ s Q = Q .ct ρ s := wp_ok
@[simp] theorem wpS_Nv {ρ : PEnv} {s : Dl} {Q : Post} : wpS sNv ρ s Q = False := wp_bad
@[simp] theorem wpS_Fz {i : Nat} {n : PEnv → M (Fl × PEnv)} {ρ : PEnv} {s : Dl} {Q : Post} : wpS (sFz i n) ρ s Q = wpS n (frz i ρ) s Q := id rfl
def kSX (i : Nat) (Q : Post) : D × PEnv → Dl → Prop := fun r s => Q .nx (r.2.set i (.im r.1)) s
@[simp] theorem kSX_ap {i : Nat} {Q : Post} {d : D} {ρ : PEnv} {s : Dl} : kSX i Q (d, ρ) s = Q .nx (ρ.set i (.im d)) s := id rfl
@[simp] theorem wpS_SX {i : Nat} {n : PEnv → M (D × PEnv)} {ρ : PEnv} {s : Dl} {Q : Post} : wpS (sSX i n) ρ s Q = wp (n ρ s) (kSX i Q) := by
  unfold wpS sSX
  simp only [wp_bind, wp_pure]
  rfl
def kEX (Q : Post) : D × PEnv → Dl → Prop := fun r s => Q .nx r.2 s
@[simp] theorem kEX_ap {Q : Post} {d : D} {ρ : PEnv} {s : Dl} : kEX Q (d, ρ) s = Q .nx ρ s := id rfl
@[simp] theorem wpS_EX {n : PEnv → M (D × PEnv)} {ρ : PEnv} {s : Dl} {Q : Post} : wpS (sEX n) ρ s Q = wp (n ρ s) (kEX Q) := by
  unfold wpS sEX
  simp only [wp_bind, wp_pure]
  rfl
def kAX (g : D → PEnv → Option PEnv) (Q : Post) : D × PEnv → Dl → Prop := fun r s => ∃ ρ', g r.1 r.2 = some ρ' ∧ Q .nx ρ' s
@[simp] theorem wpS_AX {g : D → PEnv → Option PEnv} {n : PEnv → M (D × PEnv)} {ρ : PEnv} {s : Dl} {Q : Post} : wpS (sAX g n) ρ s Q = wp (n ρ s) (kAX g Q) := by
  unfold wpS sAX
  rw [wp_bind]
  congr 1
  funext d s'
  rw [wp_liftB]
  simp only [wp_pure]
  rfl
@[simp] theorem kA_N {i : Nat} {ρ : PEnv} {Q : Post} {d : D} {s : Dl} : kA (gN i) ρ Q d s = Q .nx (ρ.set i (.im d)) s :=
  propext ⟨fun ⟨_, q, h⟩ => by cases q; exact h, fun h => ⟨_, rfl, h⟩⟩
def kG (gs : List D → PEnv → Option PEnv) (ρ : PEnv) (l : List D) (Q : Post) (s : Dl) : Prop := ∃ ρ', gs l ρ = some ρ' ∧ Q .nx ρ' s
@[simp] theorem kA_T {k : Bool} {gs : List D → PEnv → Option PEnv} {ρ : PEnv} {Q : Post} {l : List D} {s : Dl} : kA (gTup' gs) ρ Q (.tup k l) s = kG gs ρ l Q s := id rfl
@[simp] theorem kA_L {gs : List D → PEnv → Option PEnv} {ρ : PEnv} {Q : Post} {l : List D} {s : Dl} : kA (gTup' gs) ρ Q (.lst l) s = kG gs ρ l Q s := id rfl
@[simp] theorem kG_nil {ρ : PEnv} {Q : Post} {s : Dl} : kG gNil' ρ [] Q s = Q .nx ρ s := propext ⟨fun ⟨_, q, h⟩ => by cases q; exact h, fun h => ⟨_, rfl, h⟩⟩
@[simp] theorem kG_N {i : Nat} {gs : List D → PEnv → Option PEnv} {ρ : PEnv} {Q : Post} {d : D} {l : List D} {s : Dl} : kG (gCons' (gN i) gs) ρ (d :: l) Q s = kG gs (ρ.set i (.im d)) l Q s := id rfl
@[simp] theorem kG_T {k : Bool} {g gs : List D → PEnv → Option PEnv} {ρ : PEnv} {Q : Post} {d l : List D} {s : Dl} : kG (gCons' (gTup' g) gs) ρ (.tup k d :: l) Q s = kG g ρ d (fun _ ρ' s => kG gs ρ' l Q s) s := by
  show (∃ ρ', (g d ρ).bind (gs l) = some ρ' ∧ Q .nx ρ' s) = ∃ ρ2, g d ρ = some ρ2 ∧ ∃ ρ', gs l ρ2 = some ρ' ∧ Q .nx ρ' s
  cases g d ρ with
  | none => exact propext ⟨fun ⟨_, q, _⟩ => (nomatch q), fun ⟨_, q, _⟩ => (nomatch q)⟩
  | some ρ2 => exact propext ⟨fun q => ⟨_, rfl, q⟩, fun ⟨_, q, h⟩ => by cases q; exact h⟩
@[simp] theorem mkTup_s {l : List D} (h : l.length ≤ 1000) : mkTup l = pure (.tup false l) := mkTup_ok h
@[simp] theorem mkTupB_s {l : List D} (h : l.length ≤ 1000) : mkTupB l = pure (.tup true l) := mkTupB_ok h
@[simp] theorem mkLst_s {l : List D} (h : l.length ≤ 1000) : mkLst l = pure l := mkLst_ok h
@[simp] theorem callM_s {n : Nat} {F : List D → M D} {l : List D} (h : l.length = n) : callM n F l = F l := callM_ok h
@[simp] theorem bind_assoc_s {α β γ : Type} (m : M α) (f : α → M β) (g : β → M γ) : ((m >>= f) >>= g) = (m >>= fun a => f a >>= g) := bind_assoc' m f g
@[simp] theorem kPT_2 {i j : Nat} {ρ : PEnv} {Q : Post} {x y : Slot} {s : Dl} : kPT [i, j] ρ Q [x, y] s = Q .nx ((ρ.set i x).set j y) s :=
  propext ⟨fun h => h.2, fun h => ⟨⟨rfl, by show 2 ≤ sizeLine; decide⟩, h⟩⟩
@[simp] theorem kPT_3 {i j l : Nat} {ρ : PEnv} {Q : Post} {x y z : Slot} {s : Dl} : kPT [i, j, l] ρ Q [x, y, z] s = Q .nx (((ρ.set i x).set j y).set l z) s :=
  propext ⟨fun h => h.2, fun h => ⟨⟨rfl, by show 3 ≤ sizeLine; decide⟩, h⟩⟩
@[simp] theorem kPT_4 {i j l m : Nat} {ρ : PEnv} {Q : Post} {x y z w : Slot} {s : Dl} : kPT [i, j, l, m] ρ Q [x, y, z, w] s = Q .nx ((((ρ.set i x).set j y).set l z).set m w) s :=
  propext ⟨fun h => h.2, fun h => ⟨⟨rfl, by show 4 ≤ sizeLine; decide⟩, h⟩⟩
@[simp] theorem wipeE_nil {ρ : PEnv} : wipeE ρ [] = ρ := id rfl
@[simp] theorem wipeE_cons {ρ : PEnv} {v : Nat} {vs : List Nat} : wipeE ρ (v :: vs) = (wipeE ρ vs).set v .un := id rfl
@[simp] theorem sub_lN {l : List D} {i : Nat} : subAny (.lst l) (.int (i : Int)) = lift l[i]? := by
  show lift (L2.atI l (i : Int)) = _
  by_cases h : i < l.length
  · rw [List.getElem?_eq_getElem h, L2.atI_nat (List.getElem?_eq_getElem h)]
  · rw [List.getElem?_eq_none (by omega)]
    congr 1
    unfold L2.atI ixN
    rw [if_pos (by omega), if_neg (by omega)]
    rfl
@[simp] theorem sub_tN {k : Bool} {l : List D} {i : Nat} : subAny (.tup k l) (.int (i : Int)) = lift l[i]? := sub_lN (l := l)
@[simp] theorem sub_lO {l : List D} {i : Nat} : subAny (.lst l) (.int (no_index (OfNat.ofNat i))) = lift l[(OfNat.ofNat i : Nat)]? := sub_lN
@[simp] theorem sub_tO {k : Bool} {l : List D} {i : Nat} : subAny (.tup k l) (.int (no_index (OfNat.ofNat i))) = lift l[(OfNat.ofNat i : Nat)]? := sub_lN (l := l)
@[simp] theorem sub_ll {l : List D} (h : 0 < l.length) : subAny (.lst l) (.int (-1)) = lift l[l.length - 1]? := by
  show lift (L2.atI l (-1)) = _
  congr 1
  unfold L2.atI ixN
  rw [if_neg (by omega), if_pos (by omega), Option.bind_some]
  congr 1
  omega
@[simp] theorem sub_tl {k : Bool} {l : List D} (h : 0 < l.length) : subAny (.tup k l) (.int (-1)) = lift l[l.length - 1]? := sub_ll (l := l) h
@[simp] theorem addD_ll {l r : List D} (h : l.length + r.length ≤ 1000) : addD (.lst l) (.lst r) = pure (.lst (l ++ r)) := by
  show (if l.length + r.length ≤ sizeLine then (pure (D.lst (l ++ r)) : M D) else fail) = _
  rw [if_pos]
  exact Nat.le_trans h (by decide)
@[simp] theorem addD_tt {k k' : Bool} {a b : D} {l r : List D} (h : l.length + r.length ≤ 900) : addD (.tup k (a :: l)) (.tup k' (b :: r)) = pure (.tup false (a :: (l ++ b :: r))) := by
  show (if (a :: l).length + (b :: r).length ≤ sizeLine then (pure (if a :: l = [] then D.tup k' (b :: r) else if b :: r = [] then D.tup k (a :: l) else D.tup false (a :: l ++ b :: r)) : M D) else fail) = _
  rw [if_pos]
  · rfl
  · exact Nat.le_trans (m := 1000) (by simp; omega) (by decide)
@[simp] theorem arg1F_ap {f : D → M (List D)} {d : D} : arg1F f [d] = f d := id rfl
@[simp] theorem arg1_ap {f : D → M D} {d : D} : arg1 f [d] = f d := id rfl
@[simp] theorem arg2_ap {f : D → D → M D} {d e : D} : arg2 f [d, e] = f d e := id rfl
@[simp] theorem lenD_l {l : List D} : lenD (.lst l) = pure (.int l.length) := id rfl
@[simp] theorem lenD_t {k : Bool} {l : List D} : lenD (.tup k l) = pure (.int l.length) := id rfl
@[simp] theorem absO_i {i : Int} : absO (.int i) = some (.int (if i < 0 then -i else i)) := id rfl
@[simp] theorem intO_i {i : Int} : intO (.int i) = some (.int i) := id rfl
@[simp] theorem gcdO_i {i j : Int} : gcdO (.int i) (.int j) = some (.int ((Nat.gcd i.natAbs j.natAbs : Nat) : Int)) := id rfl
@[simp] theorem tupleO_l {l : List D} : tupleO (.lst l) = some (.tup false l) := id rfl
@[simp] theorem tupleO_t {k : Bool} {l : List D} : tupleO (.tup k l) = some (.tup k l) := id rfl
@[simp] theorem listO_l {l : List D} : listO (.lst l) = some l := id rfl
@[simp] theorem listO_t {k : Bool} {l : List D} : listO (.tup k l) = some l := id rfl
@[simp] theorem bind_pure_s {α : Type} (m : M α) : (m >>= fun a => (pure a : M α)) = m := bind_pure' m
@[simp] theorem ins2_ap {cn f1 f2 : Str} {a b : D} : ins2 cn f1 f2 [a, b] = pure (.ins cn [(f1, a), (f2, b)]) := id rfl
@[simp] theorem asSeqO_l {l : List D} : asSeqO (.lst l) = some l := id rfl
@[simp] theorem asSeqO_t {k : Bool} {l : List D} : asSeqO (.tup k l) = some l := id rfl
@[simp] theorem asI_i {i : Int} : asI (.int i) = pure i := id rfl
@[simp] theorem slice_l {l : List D} {a b : Option Int} : sliceD (.lst l) a b = pure (.lst (cutL l a b)) := id rfl
@[simp] theorem cut_toN {l : List D} {k : Nat} : cutL l none (some (k : Int)) = l.take k := by
  unfold cutL
  rw [HT.sIx_none, HT.sIx_nat, List.drop_zero, Nat.sub_zero, List.take_eq_take_iff]
  omega
@[simp] theorem cut_toO {l : List D} {k : Nat} : cutL l none (some (no_index (OfNat.ofNat k))) = l.take (OfNat.ofNat k) := cut_toN
@[simp] theorem cut_fromN {l : List D} {k : Nat} : cutL l (some (k : Int)) none = l.drop k := by
  unfold cutL
  rw [HT.sIx_none, HT.sIx_nat]
  by_cases h : k ≤ l.length
  · rw [Nat.min_eq_left h, List.take_of_length_le (by rw [List.length_drop]; omega)]
  · rw [Nat.min_eq_right (by omega), List.drop_of_length_le (Nat.le_refl _), List.drop_of_length_le (by omega)]
    simp
@[simp] theorem cut_fromO {l : List D} {k : Nat} : cutL l (some (no_index (OfNat.ofNat k))) none = l.drop (OfNat.ofNat k) := cut_fromN
@[simp] theorem cut_nnN {l : List D} {a b : Nat} : cutL l (some (a : Int)) (some (b : Int)) = (l.drop a).take (b - a) := by
  unfold cutL
  rw [HT.sIx_nat, HT.sIx_nat]
  by_cases h : a ≤ l.length
  · rw [Nat.min_eq_left h]
    by_cases h2 : b ≤ l.length
    · rw [Nat.min_eq_left h2]
    · rw [Nat.min_eq_right (by omega), List.take_of_length_le (by rw [List.length_drop]; omega), List.take_of_length_le (by rw [List.length_drop]; omega)]
  · rw [Nat.min_eq_right (show l.length ≤ a by omega), List.drop_of_length_le (Nat.le_refl _), List.drop_of_length_le (by omega)]
    simp
@[simp] theorem cut_none {l : List D} : cutL l none none = l := by
  unfold cutL
  rw [HT.sIx_none, HT.sIx_none]
  simp
@[simp] theorem kG_L {g gs : List D → PEnv → Option PEnv} {ρ : PEnv} {Q : Post} {d l : List D} {s : Dl} : kG (gCons' (gTup' g) gs) ρ (.lst d :: l) Q s = kG g ρ d (fun _ ρ' s => kG gs ρ' l Q s) s := kG_T (k := true)
/-! loops -/
def kLoop (J : PEnv → Dl → Prop) (Q : Post) : Post := fun f ρ s => match f with
  | .nx => J ρ s
  | .ct => J ρ s
  | .brk => Q .nx ρ s
  | .ret d => Q (.ret d) ρ s
@[simp] theorem kLoop_ct {J : PEnv → Dl → Prop} {Q : Post} {ρ : PEnv} {s : Dl} : kLoop J Q .ct ρ s = kLoop J Q .nx ρ s := id rfl
@[simp] theorem kLoop_brk {J : PEnv → Dl → Prop} {Q : Post} {ρ : PEnv} {s : Dl} : kLoop J Q .brk ρ s = Q .nx ρ s := id rfl
@[simp] theorem kLoop_ret {J : PEnv → Dl → Prop} {Q : Post} {d : D} {ρ : PEnv} {s : Dl} : kLoop J Q (.ret d) ρ s = Q (.ret d) ρ s := id rfl
def kFor (g : D → PEnv → Option PEnv) (mb : PEnv → M (Fl × PEnv)) (ρ : PEnv) (Q : Post) : List D → Dl → Prop := fun ds s => wpS (loopM g mb ds) ρ s Q
@[simp] theorem wpS_For {n : PEnv → M (List D)} {g : D → PEnv → Option PEnv} {mb : PEnv → M (Fl × PEnv)} {ρ : PEnv} {s : Dl} {Q : Post} : wpS (sFor n g mb) ρ s Q = wp (n ρ s) (kFor g mb ρ Q) := by
  unfold wpS sFor
  simp only [wp_bind, wp_pure]
  rfl
theorem loop_cons {g : D → PEnv → Option PEnv} {mb : PEnv → M (Fl × PEnv)} {d : D} {ds : List D} {ρ : PEnv} {s : Dl} {Q : Post} :
    wpS (loopM g mb (d :: ds)) ρ s Q = kA g ρ (kSeq mb (kLoop (fun ρ s => wpS (loopM g mb ds) ρ s Q) Q)) d s := by
  have e : ∀ (r : Fl × PEnv) (s' : Dl), wp ((match r.1 with
      | .nx => loopM g mb ds r.2
      | .ct => loopM g mb ds r.2
      | .brk => pure (.nx, r.2)
      | .ret v => pure (.ret v, r.2) : M (Fl × PEnv)) s') (fun r s' => Q r.1 r.2 s') = kLoop (fun ρ s => wpS (loopM g mb ds) ρ s Q) Q r.1 r.2 s' := by
    rintro ⟨f, ρ'⟩ s'
    cases f
    · rfl
    · exact wp_ok
    · rfl
    · exact wp_ok
  unfold wpS kA
  show wp ((lift (g d ρ) >>= fun ρ1 => mb ρ1 >>= fun r => match r.1 with
    | .nx => loopM g mb ds r.2
    | .ct => loopM g mb ds r.2
    | .brk => pure (.nx, r.2)
    | .ret v => pure (.ret v, r.2)) s) _ = _
  rw [wp_liftB]
  congr 1
  funext ρ1
  rw [wp_bind]
  have e2 : (fun (a : Fl × PEnv) s' => wp ((match a.1 with
      | .nx => loopM g mb ds a.2
      | .ct => loopM g mb ds a.2
      | .brk => pure (.nx, a.2)
      | .ret v => pure (.ret v, a.2) : M (Fl × PEnv)) s') (fun r s' => Q r.1 r.2 s')) = fun r s' => kLoop (fun ρ s => wpS (loopM g mb ds) ρ s Q) Q r.1 r.2 s' := by
    funext r s'
    exact e r s'
  rw [e2]
  rfl
def kNext (g : D → PEnv → Option PEnv) (mb : PEnv → M (Fl × PEnv)) (ds : List D) (Q : Post) : Post := kLoop (fun ρ s => kFor g mb ρ Q ds s) Q
theorem kNext_nx {g : D → PEnv → Option PEnv} {mb : PEnv → M (Fl × PEnv)} {ds : List D} {Q : Post} {ρ : PEnv} {s : Dl} : kNext g mb ds Q .nx ρ s = kFor g mb ρ Q ds s := id rfl
theorem kFor_cons {g : D → PEnv → Option PEnv} {mb : PEnv → M (Fl × PEnv)} {d : D} {ds : List D} {ρ : PEnv} {s : Dl} {Q : Post} : kFor g mb ρ Q (d :: ds) s = kA g ρ (kSeq mb (kNext g mb ds Q)) d s := loop_cons
theorem kFor_nil {g : D → PEnv → Option PEnv} {mb : PEnv → M (Fl × PEnv)} {ρ : PEnv} {s : Dl} {Q : Post} : kFor g mb ρ Q [] s = Q .nx ρ s := wp_ok
theorem kLoop_mono {J J' : PEnv → Dl → Prop} {Q : Post} {f : Fl} {ρ : PEnv} {s : Dl} (h : kLoop J Q f ρ s) (k : ∀ ρ s, J ρ s → J' ρ s) : kLoop J' Q f ρ s := by
  cases f
  · exact k _ _ h
  · exact h
  · exact k _ _ h
  · exact h
theorem kA_mono {g : D → PEnv → Option PEnv} {ρ : PEnv} {mb : PEnv → M (Fl × PEnv)} {P P' : Post} {d : D} {s : Dl} (h : kA g ρ (kSeq mb P) d s) (k : ∀ f ρ s, P f ρ s → P' f ρ s) : kA g ρ (kSeq mb P') d s := by
  obtain ⟨ρ', e, h⟩ := h
  exact ⟨ρ', e, wp_mono (show wp (mb ρ' s) _ from h) fun a s' q => k _ _ _ q⟩
/-- a loop by an invariant -/
theorem for_inv {g : D → PEnv → Option PEnv} {mb : PEnv → M (Fl × PEnv)} {Q : Post} (I : Nat → PEnv → Dl → Prop) : ∀ {ds : List D} {ρ : PEnv} {s : Dl}, I 0 ρ s →
    (∀ i d ρ s, ds[i]? = some d → I i ρ s → kA g ρ (kSeq mb (kLoop (I (i + 1)) Q)) d s) → (∀ ρ s, I ds.length ρ s → Q .nx ρ s) → kFor g mb ρ Q ds s := by
  intro ds
  have go : ∀ (ds : List D) (k : Nat) (ρ : PEnv) (s : Dl), I k ρ s → (∀ i d ρ s, ds[i]? = some d → I (k + i) ρ s → kA g ρ (kSeq mb (kLoop (I (k + i + 1)) Q)) d s) → (∀ ρ s, I (k + ds.length) ρ s → Q .nx ρ s) → wpS (loopM g mb ds) ρ s Q := by
    intro ds
    induction ds with
    | nil => exact fun k ρ s h0 _ he => .mk (he ρ s h0)
    | cons d ds ih =>
      intro k ρ s h0 st he
      rw [loop_cons]
      have h1 := st 0 d ρ s rfl h0
      refine kA_mono h1 fun f ρ' s' q => kLoop_mono q fun ρ s h => ?_
      refine ih (k + 1) ρ s h (fun i d ρ s e h => ?_) (fun ρ s h => he ρ s (by rw [List.length_cons, show k + (ds.length + 1) = k + 1 + ds.length by omega]; exact h))
      have z := st (i + 1) d ρ s (by simpa using e) (by rw [show k + (i + 1) = k + 1 + i by omega]; exact h)
      rw [show k + (i + 1) + 1 = k + 1 + i + 1 by omega] at z
      exact z
  intro ρ s h0 st he
  exact go ds 0 ρ s h0 (fun i d ρ s e h => by rw [Nat.zero_add] at h ⊢; exact st i d ρ s e h) (by rw [Nat.zero_add]; exact he)
/-- .. where the place doesn't matter -/
theorem for_all {g : D → PEnv → Option PEnv} {mb : PEnv → M (Fl × PEnv)} {Q : Post} (I : PEnv → Dl → Prop) {ds : List D} {ρ : PEnv} {s : Dl} (h0 : I ρ s)
    (st : ∀ d ∈ ds, ∀ ρ s, I ρ s → kA g ρ (kSeq mb (kLoop I Q)) d s) (he : ∀ ρ s, I ρ s → Q .nx ρ s) : kFor g mb ρ Q ds s :=
  for_inv (fun _ => I) h0 (fun i d ρ s e h => st d (List.mem_of_getElem? e) ρ s h) he
/-- a loop by what lies behind and ahead -/
theorem for_cut {g : D → PEnv → Option PEnv} {mb : PEnv → M (Fl × PEnv)} {Q : Post} (I : List D → PEnv → Dl → Prop) {ds : List D} {ρ : PEnv} {s : Dl} (h0 : I [] ρ s)
    (st : ∀ pre d post ρ s, ds = pre ++ d :: post → I pre ρ s → kA g ρ (kSeq mb (kLoop (I (pre ++ [d])) Q)) d s) (he : ∀ ρ s, I ds ρ s → Q .nx ρ s) : kFor g mb ρ Q ds s := by
  refine for_inv (fun i ρ s => I (ds.take i) ρ s) h0 (fun i d ρ s e h => ?_) (fun ρ s h => he ρ s (by rwa [List.take_of_length_le (Nat.le_refl _)] at h))
  have hi : i < ds.length := by
    rcases Nat.lt_or_ge i ds.length with h | h
    · exact h
    · rw [List.getElem?_eq_none h] at e; cases e
  have e1 : ds[i] = d := by rw [List.getElem?_eq_getElem hi] at e; exact Option.some.inj e
  have e2 : ds = ds.take i ++ d :: ds.drop (i + 1) := by rw [← e1, ← List.drop_eq_getElem_cons hi, List.take_append_drop]
  have e3 : ds.take (i + 1) = ds.take i ++ [d] := by rw [List.take_succ_eq_append_getElem hi, e1]
  show kA g ρ (kSeq mb (kLoop (fun ρ s => I (ds.take (i + 1)) ρ s) Q)) d s
  rw [e3]
  exact st _ d _ ρ s e2 h
def kWh (t : PEnv → M Bool) (mb : PEnv → M (Fl × PEnv)) (k : Nat) (ρ : PEnv) (s : Dl) (Q : Post) : Prop := wpS (whileM t mb k) ρ s Q
@[simp] theorem wpS_Wh {k : Nat} {t : PEnv → M Bool} {mb : PEnv → M (Fl × PEnv)} {ρ : PEnv} {s : Dl} {Q : Post} : wpS (sWh k t mb) ρ s Q = kWh t mb k ρ s Q := id rfl
def kTst (mb : PEnv → M (Fl × PEnv)) (ρ : PEnv) (P Q : Post) : Bool → Dl → Prop := fun b s => match b with
  | true => wpS mb ρ s P
  | false => Q .nx ρ s
@[simp] theorem kTst_true {mb : PEnv → M (Fl × PEnv)} {ρ : PEnv} {P Q : Post} {s : Dl} : kTst mb ρ P Q true s = wpS mb ρ s P := id rfl
@[simp] theorem kTst_false {mb : PEnv → M (Fl × PEnv)} {ρ : PEnv} {P Q : Post} {s : Dl} : kTst mb ρ P Q false s = Q .nx ρ s := id rfl
theorem kTst_b {mb : PEnv → M (Fl × PEnv)} {ρ : PEnv} {P Q : Post} {s : Dl} {b : Bool} (h1 : b = true → wpS mb ρ s P) (h2 : b = false → Q .nx ρ s) : kTst mb ρ P Q b s := by
  cases b
  · exact h2 rfl
  · exact h1 rfl
theorem wh_succ {t : PEnv → M Bool} {mb : PEnv → M (Fl × PEnv)} {n : Nat} {ρ : PEnv} {s : Dl} {Q : Post} : kWh t mb (n + 1) ρ s Q = wp (t ρ s) (kTst mb ρ (kLoop (fun ρ s => kWh t mb n ρ s Q) Q) Q) := by
  unfold kWh wpS
  show wp ((t ρ >>= fun b => if b then (mb ρ >>= fun r => match r.1 with
    | .nx => whileM t mb n r.2
    | .ct => whileM t mb n r.2
    | .brk => pure (.nx, r.2)
    | .ret v => pure (.ret v, r.2)) else pure (.nx, ρ)) s) _ = _
  rw [wp_bind]
  congr 1
  funext b s'
  cases b
  · exact wp_ok
  · show wp ((mb ρ >>= _) s') _ = wp (mb ρ s') _
    rw [wp_bind]
    congr 1
    funext r s2
    obtain ⟨f, ρ'⟩ := r
    cases f
    · rfl
    · exact wp_ok
    · rfl
    · exact wp_ok
/-- a while by an invariant with a measure -/
theorem wh_inv {t : PEnv → M Bool} {mb : PEnv → M (Fl × PEnv)} {Q : Post} (I : Nat → PEnv → Dl → Prop) : ∀ {k n : Nat} {ρ : PEnv} {s : Dl}, n < k → I n ρ s →
    (∀ n ρ s, I n ρ s → wp (t ρ s) (kTst mb ρ (kLoop (fun ρ s => ∃ m, m < n ∧ I m ρ s) Q) Q)) → kWh t mb k ρ s Q := by
  intro k
  induction k with
  | zero => intro n ρ s h; omega
  | succ k ih =>
    intro n ρ s hn hi st
    rw [wh_succ]
    refine wp_mono (st n ρ s hi) fun b s' h => ?_
    cases b
    · exact h
    · exact wp_mono (show wp (mb ρ s') _ from h) fun r s2 q => kLoop_mono q fun ρ s ⟨m, hm, h⟩ => ih (by omega) h st
/-! lists, dicts that change -/
def kApp (i : Nat) (l : List D) (ρ : PEnv) (Q : Post) : D → Dl → Prop := fun d s => l.length < sizeLine ∧ Q .nx (ρ.set i (.mu (l ++ [d]))) s
theorem kApp_ok {i : Nat} {l : List D} {ρ : PEnv} {Q : Post} {d : D} {s : Dl} (h : l.length ≤ 1000) : kApp i l ρ Q d s = Q .nx (ρ.set i (.mu (l ++ [d]))) s :=
  propext ⟨fun h => h.2, fun q => ⟨Nat.lt_of_le_of_lt h (by decide), q⟩⟩
theorem wpS_app {i : Nat} {m : PEnv → M D} {ρ : PEnv} {s : Dl} {Q : Post} {l : List D} (h : muAt i ρ = some l) : wpS (appM i m) ρ s Q = wp (m ρ s) (kApp i l ρ Q) := by
  unfold wpS appM
  rw [h, lift_some, pure_bind', wp_bind]
  congr 1
  funext d s'
  rw [wp_liftI, wp_pure]
  rfl
/-- .. by what the name holds -/
def kAppE (i : Nat) (o : Option (List D)) (ρ : PEnv) (Q : Post) : D → Dl → Prop := fun d s => ∃ l, o = some l ∧ kApp i l ρ Q d s
theorem wpS_appE {i : Nat} {m : PEnv → M D} {ρ : PEnv} {s : Dl} {Q : Post} {l : List D} (h : muAt i ρ = some l) : wpS (appM i m) ρ s Q = wp (m ρ s) (kAppE i (muAt i ρ) ρ Q) := by
  rw [wpS_app h]
  congr 1
  funext d s'
  unfold kAppE
  rw [h]
  exact propext ⟨fun q => ⟨l, rfl, q⟩, fun ⟨_, e, q⟩ => by cases e; exact q⟩
theorem kAppE_ok {i : Nat} {l : List D} {ρ : PEnv} {Q : Post} {d : D} {s : Dl} (h : l.length ≤ 1000) : kAppE i (some l) ρ Q d s = Q .nx (ρ.set i (.mu (l ++ [d]))) s := by
  unfold kAppE
  rw [← kApp_ok (ρ := ρ) (Q := Q) (d := d) (s := s) h]
  exact propext ⟨fun ⟨_, e, q⟩ => by cases e; exact q, fun q => ⟨l, rfl, q⟩⟩
@[simp] theorem muAt_zero {l : List D} {ρ : PEnv} : muAt 0 (.mu l :: ρ) = some l := id rfl
@[simp] theorem muAt_succ {i : Nat} {x : Slot} {ρ : PEnv} : muAt (i + 1) (x :: ρ) = muAt i ρ := by unfold muAt; rw [List.getElem?_cons_succ]
@[simp] theorem mdAt_zero {t : Bool} {l : List (D × D)} {ρ : PEnv} : mdAt 0 (.md t l :: ρ) = some (t, l) := id rfl
@[simp] theorem mdAt_succ {i : Nat} {x : Slot} {ρ : PEnv} : mdAt (i + 1) (x :: ρ) = mdAt i ρ := by unfold mdAt; rw [List.getElem?_cons_succ]
@[simp] theorem frz_mu {l : List D} {ρ : PEnv} : frz 0 (.mu l :: ρ) = .im (.lst l) :: ρ := id rfl
@[simp] theorem frz_md {t : Bool} {l : List (D × D)} {ρ : PEnv} : frz 0 (.md t l :: ρ) = .im (.dic t l) :: ρ := id rfl
@[simp] theorem frz_im {d : D} {ρ : PEnv} : frz 0 (.im d :: ρ) = .im d :: ρ := id rfl
@[simp] theorem frz_un {ρ : PEnv} : frz 0 (.un :: ρ) = .un :: ρ := id rfl
@[simp] theorem frz_succ {i : Nat} {x : Slot} {ρ : PEnv} : frz (i + 1) (x :: ρ) = x :: frz i ρ := by
  unfold frz
  rw [List.getElem?_cons_succ]
  cases h : ρ[i]? with
  | none => rfl
  | some y => cases y <;> rfl
def kSet (i : Nat) (mj : PEnv → M D) (ρ : PEnv) (Q : Post) : D → Dl → Prop := fun d s => ∃ l, muAt i ρ = some l ∧ wp (mj ρ s) (fun j s' => ∃ q : Nat, j = .int q ∧ q < l.length ∧ Q .nx (ρ.set i (.mu (l.set q d))) s')
theorem wpS_setI {i : Nat} {m mj : PEnv → M D} {ρ : PEnv} {s : Dl} {Q : Post} (hb : ∀ l, muAt i ρ = some l → l.length ≤ 1000) (h : wp (m ρ s) (kSet i mj ρ Q)) : wpS (setM i m mj) ρ s Q := by
  unfold wpS setM
  rw [wp_bind]
  refine wp_mono h fun d s' h => ?_
  obtain ⟨l, e, h⟩ := h
  rw [e, lift_some, pure_bind', wp_bind]
  refine wp_mono h fun j s2 h => ?_
  obtain ⟨q, rfl, hq, h⟩ := h
  have hz : ((asIO (.int (q : Int))).bind fun z => ixN l.length z) = some q := ?_
  · rw [hz, lift_some, pure_bind', wp_pure]; exact h
  · show ixN l.length (q : Int) = some q
    unfold ixN
    rw [if_pos (by omega), if_pos (by omega)]
    simp
def kPut (t : Bool) (l : List (D × D)) (i : Nat) (mk : PEnv → M D) (ρ : PEnv) (Q : Post) : D → Dl → Prop := fun d s => wp (mk ρ s) (fun y s' => (l.length < sizeLine ∧ keyKind t y = some ()) ∧ Q .nx (ρ.set i (.md t (putD l y d))) s')
def kPut2 (t : Bool) (l : List (D × D)) (i : Nat) (ρ : PEnv) (Q : Post) (d : D) : D → Dl → Prop := fun y s' => (l.length < sizeLine ∧ keyKind t y = some ()) ∧ Q .nx (ρ.set i (.md t (putD l y d))) s'
@[simp] theorem kPut_ap {t : Bool} {l : List (D × D)} {i : Nat} {mk : PEnv → M D} {ρ : PEnv} {Q : Post} {d : D} {s : Dl} : kPut t l i mk ρ Q d s = wp (mk ρ s) (kPut2 t l i ρ Q d) := id rfl
theorem kPut2_ok {t : Bool} {l : List (D × D)} {i : Nat} {ρ : PEnv} {Q : Post} {d y : D} {s : Dl} (hl : l.length ≤ 1000) (hk : keyKind t y = some ()) : kPut2 t l i ρ Q d y s = Q .nx (ρ.set i (.md t (putD l y d))) s :=
  propext ⟨fun h => h.2, fun q => ⟨⟨Nat.lt_of_le_of_lt hl (by decide), hk⟩, q⟩⟩
theorem wpS_dput {i : Nat} {m mk : PEnv → M D} {ρ : PEnv} {s : Dl} {Q : Post} {t : Bool} {l : List (D × D)} (h : mdAt i ρ = some (t, l)) : wpS (dputM i m mk) ρ s Q = wp (m ρ s) (kPut t l i mk ρ Q) := by
  unfold wpS dputM
  rw [wp_bind]
  congr 1
  funext d s'
  rw [h, lift_some, pure_bind', wp_bind, kPut_ap]
  congr 1
  funext y s2
  unfold kPut2
  rw [wp_liftB]
  by_cases hl : l.length < sizeLine
  · simp only [if_pos hl, wp_pure]
    exact propext ⟨fun ⟨u, e, q⟩ => ⟨⟨hl, e⟩, q⟩, fun q => ⟨(), q.1.2, q.2⟩⟩
  · simp only [if_neg hl]
    exact propext ⟨fun ⟨_, e, _⟩ => (nomatch e), fun q => absurd q.1.1 hl⟩
/-! comprehensions -/
def kB (own : List Nat) (g : D → PEnv → Option PEnv) (mt : PEnv → M Bool) (me : PEnv → M D) (ρ : PEnv) (R : List D → Dl → Prop) : List D → Dl → Prop := fun ds s => (ds.length < sizeLine ∧ ownFree ρ own = true) ∧ wp (compM g mt me ds (wipeE ρ own) s) R
@[simp] theorem wp_blk {own : List Nat} {n : PEnv → M (List D)} {g : D → PEnv → Option PEnv} {mt : PEnv → M Bool} {me : PEnv → M D} {ρ : PEnv} {s : Dl} {R : List D → Dl → Prop} : wp (blkM own n g mt me ρ s) R = wp (n ρ s) (kB own g mt me ρ R) := by
  unfold blkM
  rw [wp_bind]
  congr 1
  funext ds s'
  rw [wp_liftI]
  rfl
@[simp] theorem wp_blkB {β : Type} {own : List Nat} {n : PEnv → M (List D)} {g : D → PEnv → Option PEnv} {mt : PEnv → M Bool} {me : PEnv → M D} {ρ : PEnv} {s : Dl} {f : List D → M β} {Q : β → Dl → Prop} : wp ((blkM own n g mt me ρ >>= f) s) Q = wp (n ρ s) (kB own g mt me ρ (fun l s' => wp (f l s') Q)) := by
  rw [wp_bind, wp_blk]
def kCp (mt : PEnv → M Bool) (me : PEnv → M D) (R : Option D → Dl → Prop) : Post := fun _ ρ s => wp (mt ρ s) (fun b s1 => match b with
  | true => wp (me ρ s1) (fun z s2 => R (some z) s2)
  | false => R none s1)
def kCt (me : PEnv → M D) (ρ : PEnv) (R : Option D → Dl → Prop) : Bool → Dl → Prop := fun b s1 => match b with
  | true => wp (me ρ s1) (fun z s2 => R (some z) s2)
  | false => R none s1
def kCe (R : Option D → Dl → Prop) : D → Dl → Prop := fun z s => R (some z) s
@[simp] theorem kCp_ap {mt : PEnv → M Bool} {me : PEnv → M D} {R : Option D → Dl → Prop} {f : Fl} {ρ : PEnv} {s : Dl} : kCp mt me R f ρ s = wp (mt ρ s) (kCt me ρ R) := id rfl
@[simp] theorem kCt_true {me : PEnv → M D} {ρ : PEnv} {R : Option D → Dl → Prop} {s : Dl} : kCt me ρ R true s = wp (me ρ s) (kCe R) := id rfl
@[simp] theorem kCt_false {me : PEnv → M D} {ρ : PEnv} {R : Option D → Dl → Prop} {s : Dl} : kCt me ρ R false s = R none s := id rfl
@[simp] theorem kCe_ap {R : Option D → Dl → Prop} {z : D} {s : Dl} : kCe R z s = R (some z) s := id rfl
theorem kCt_b {me : PEnv → M D} {ρ : PEnv} {R : Option D → Dl → Prop} {s : Dl} {b : Bool} (h1 : b = true → wp (me ρ s) (kCe R)) (h2 : b = false → R none s) : kCt me ρ R b s := by
  cases b
  · exact h2 rfl
  · exact h1 rfl
theorem comp_cons {g : D → PEnv → Option PEnv} {mt : PEnv → M Bool} {me : PEnv → M D} {d : D} {ds : List D} {ρ : PEnv} {s : Dl} {R : List D → Dl → Prop} (h : kA g ρ (kCp mt me (fun o s' => wp (compM g mt me ds ρ s') (fun l s2 => R (o.toList ++ l) s2))) d s) : wp (compM g mt me (d :: ds) ρ s) R := by
  obtain ⟨ρ1, e, h⟩ := h
  show wp ((lift (g d ρ) >>= fun ρ1 => noexc (mt ρ1) >>= fun b => (if b then noexc (me ρ1) >>= fun z => pure [z] else pure []) >>= fun z => compM g mt me ds ρ >>= fun l => pure (z ++ l)) s) R
  rw [e, lift_some, pure_bind']
  obtain ⟨b, s1, e1, h1⟩ := wp_get (show wp (mt ρ1 s) _ from h)
  rw [bind_ok (noexc_ok e1)]
  cases b
  · show wp ((compM g mt me ds ρ >>= fun l => pure ([] ++ l)) s1) R
    rw [wp_bind]
    simp only [wp_pure]
    exact h1
  · obtain ⟨z, s2, e2, h2⟩ := wp_get (show wp (me ρ1 s1) _ from h1)
    show wp (((noexc (me ρ1) >>= fun z => pure [z]) >>= fun z => compM g mt me ds ρ >>= fun l => pure (z ++ l)) s1) R
    rw [bind_assoc', bind_ok (noexc_ok e2)]
    show wp ((compM g mt me ds ρ >>= fun l => pure ([z] ++ l)) s2) R
    rw [wp_bind]
    simp only [wp_pure]
    exact h2
/-- two lists item by item -/
inductive All2 {α β : Type} (R : α → β → Prop) : List α → List β → Prop
  | nil : All2 R [] []
  | cons {a : α} {b : β} {l : List α} {r : List β} : R a b → All2 R l r → All2 R (a :: l) (b :: r)
theorem All2.length {α β : Type} {R : α → β → Prop} {l : List α} {r : List β} (h : All2 R l r) : l.length = r.length := by
  induction h with
  | nil => rfl
  | cons _ _ ih => simp [ih]
theorem All2.mem_right {α β : Type} {R : α → β → Prop} {l : List α} {r : List β} (h : All2 R l r) {b : β} (hb : b ∈ r) : ∃ a ∈ l, R a b := by
  induction h with
  | nil => cases hb
  | cons h t ih =>
    rcases List.mem_cons.mp hb with rfl | hb
    · exact ⟨_, by simp, h⟩
    · obtain ⟨a, ha, r⟩ := ih hb
      exact ⟨a, by simp [ha], r⟩
/-- a comprehension by what each item gives -/
theorem comp_wp {g : D → PEnv → Option PEnv} {mt : PEnv → M Bool} {me : PEnv → M D} {ρ : PEnv} {R : List D → Dl → Prop} (I : Dl → Prop) (T : D → Option D → Prop) : ∀ {ds : List D} {s : Dl}, I s →
    (∀ d ∈ ds, ∀ s, I s → kA g ρ (kCp mt me (fun o s' => T d o ∧ I s')) d s) → (∀ zs s', All2 T ds zs → I s' → R (zs.filterMap id) s') → wp (compM g mt me ds ρ s) R := by
  intro ds
  induction ds generalizing R with
  | nil => exact fun h0 _ he => .mk (he [] _ .nil h0)
  | cons d ds ih =>
    intro s h0 st he
    refine comp_cons ?_
    obtain ⟨ρ1, e, h⟩ := st d (by simp) s h0
    refine ⟨ρ1, e, ?_⟩
    have key : ∀ (o : Option D) (s' : Dl), T d o ∧ I s' → wp (compM g mt me ds ρ s') (fun l s2 => R (o.toList ++ l) s2) := by
      rintro o s' ⟨ht, hi⟩
      refine ih (R := fun l s2 => R (o.toList ++ l) s2) hi (fun d hd => st d (by simp [hd])) fun zs s' ha hi => ?_
      have := he (o :: zs) s' (.cons ht ha) hi
      cases o <;> exact this
    refine wp_mono (show wp (mt ρ1 s) _ from h) fun b s1 q => ?_
    cases b
    · exact key none s1 q
    · exact wp_mono (show wp (me ρ1 s1) _ from q) fun z s2 q => key (some z) s2 q
theorem comp_nil {g : D → PEnv → Option PEnv} {mt : PEnv → M Bool} {me : PEnv → M D} {ρ : PEnv} {s : Dl} {R : List D → Dl → Prop} (h : R [] s) : wp (compM g mt me [] ρ s) R := .mk h
theorem kB_go {own : List Nat} {g : D → PEnv → Option PEnv} {mt : PEnv → M Bool} {me : PEnv → M D} {ρ : PEnv} {R : List D → Dl → Prop} {ds : List D} {s : Dl} (hl : ds.length ≤ 1000) (hf : ownFree ρ own = true) (h : wp (compM g mt me ds (wipeE ρ own) s) R) : kB own g mt me ρ R ds s :=
  ⟨⟨Nat.lt_of_le_of_lt hl (by decide), hf⟩, h⟩
theorem All2.map_eq {α β : Type} {f : α → β} {l : List α} {r : List β} (h : All2 (fun a b => b = f a) l r) : r = l.map f := by
  induction h with
  | nil => rfl
  | cons h _ ih => rw [h, ih]; rfl
/-- .. where all is plain -/
theorem kB_map {own : List Nat} {g : D → PEnv → Option PEnv} {mt : PEnv → M Bool} {me : PEnv → M D} {ρ : PEnv} {R : List D → Dl → Prop} {ds : List D} {s : Dl} (f : D → Option D) (hl : ds.length ≤ 1000) (hf : ownFree ρ own = true)
    (st : ∀ d ∈ ds, ∀ s, kA g (wipeE ρ own) (kCp mt me (fun o s' => o = f d ∧ s' = s)) d s) (k : R (ds.filterMap f) s) : kB own g mt me ρ R ds s := by
  refine ⟨⟨Nat.lt_of_le_of_lt hl (by decide), hf⟩, comp_wp (fun s' => s' = s) (fun d o => o = f d) rfl (fun d hd s1 e => by subst e; exact st d hd _) fun zs s' ha e => ?_⟩
  subst e
  rw [All2.map_eq ha, List.filterMap_map]
  exact k
theorem kB_wp {own : List Nat} {g : D → PEnv → Option PEnv} {mt : PEnv → M Bool} {me : PEnv → M D} {ρ : PEnv} {R : List D → Dl → Prop} {ds : List D} {s : Dl} (I : Dl → Prop) (T : D → Option D → Prop) (hl : ds.length ≤ 1000) (hf : ownFree ρ own = true) (h0 : I s)
    (st : ∀ d ∈ ds, ∀ s, I s → kA g (wipeE ρ own) (kCp mt me (fun o s' => T d o ∧ I s')) d s) (k : ∀ zs s', All2 T ds zs → I s' → R (zs.filterMap id) s') : kB own g mt me ρ R ds s :=
  ⟨⟨Nat.lt_of_le_of_lt hl (by decide), hf⟩, comp_wp I T h0 st k⟩
/-- .. each item giving one -/
theorem kB_all {own : List Nat} {g : D → PEnv → Option PEnv} {me : PEnv → M D} {ρ : PEnv} {R : List D → Dl → Prop} {ds : List D} {s : Dl} (I : Dl → Prop) (T : D → D → Prop) (hl : ds.length ≤ 1000) (hf : ownFree ρ own = true) (h0 : I s)
    (st : ∀ d ∈ ds, ∀ s, I s → kA g (wipeE ρ own) (kCp aTrue me (fun o s' => (∃ z, o = some z ∧ T d z) ∧ I s')) d s) (k : ∀ zs s', All2 T ds zs → I s' → R zs s') : kB own g aTrue me ρ R ds s := by
  refine kB_wp I (fun d o => ∃ z, o = some z ∧ T d z) hl hf h0 st fun zs s' ha hi => ?_
  obtain ⟨ws, e, hw⟩ : ∃ ws, zs.filterMap id = ws ∧ All2 T ds ws := by
    clear st k hl
    induction ha with
    | nil => exact ⟨[], rfl, .nil⟩
    | cons h _ ih =>
      obtain ⟨z, rfl, hz⟩ := h
      obtain ⟨ws, e, hw⟩ := ih
      exact ⟨z :: ws, by rw [List.filterMap_cons_some (b := z) (by rfl), e], .cons hz hw⟩
  rw [e]
  exact k ws s' hw hi
/-! one piece behind another -/
def kMid (J : PEnv → Dl → Prop) (Q : Post) : Post := fun f ρ s => match f with
  | .nx => J ρ s
  | f => Q f ρ s
@[simp] theorem kMid_ct {J : PEnv → Dl → Prop} {Q : Post} {ρ : PEnv} {s : Dl} : kMid J Q .ct ρ s = Q .ct ρ s := rfl
@[simp] theorem kMid_brk {J : PEnv → Dl → Prop} {Q : Post} {ρ : PEnv} {s : Dl} : kMid J Q .brk ρ s = Q .brk ρ s := rfl
@[simp] theorem kMid_ret {J : PEnv → Dl → Prop} {Q : Post} {d : D} {ρ : PEnv} {s : Dl} : kMid J Q (.ret d) ρ s = Q (.ret d) ρ s := rfl
theorem seq_cut (J : PEnv → Dl → Prop) {n n2 : PEnv → M (Fl × PEnv)} {ρ : PEnv} {s : Dl} {Q : Post} (h1 : wpS n ρ s (kMid J Q)) (h2 : ∀ ρ s, J ρ s → wpS n2 ρ s Q) : wpS (seqM n n2) ρ s Q := by
  rw [wpS_seq]
  refine wp_mono (show wp (n ρ s) _ from h1) fun r s' q => ?_
  obtain ⟨f, ρ'⟩ := r
  cases f
  · exact h2 _ _ q
  all_goals exact q
/-- what a def gives -/
theorem wp_run {N : Nat} {n : PEnv → M (Fl × PEnv)} {ds : List D} {s : Dl} {R : D → Dl → Prop} (h : wpS n (ds.map Slot.im ++ List.replicate (N - ds.length) .un) s (fun f _ s' => match f with
  | .ret d => R d s'
  | .nx => R .non s'
  | _ => False)) : wp (runF N n ds s) R := by
  unfold runF
  rw [wp_bind]
  refine wp_mono (show wp (n _ s) _ from h) fun r s' q => ?_
  obtain ⟨f, ρ⟩ := r
  cases f
  · exact .mk q
  · exact q.elim
  · exact q.elim
  · exact .mk q
def kEnd (R : D → Dl → Prop) : Post := fun f _ s' => match f with
  | .ret d => R d s'
  | .nx => R .non s'
  | _ => False
@[simp] theorem kEnd_ret {R : D → Dl → Prop} {d : D} {ρ : PEnv} {s : Dl} : kEnd R (.ret d) ρ s = R d s := id rfl
@[simp] theorem kEnd_nx {R : D → Dl → Prop} {ρ : PEnv} {s : Dl} : kEnd R .nx ρ s = R .non s := id rfl
theorem run_wp {N : Nat} {n : PEnv → M (Fl × PEnv)} {ds : List D} {s : Dl} {R : D → Dl → Prop} (h : wpS n (ds.map Slot.im ++ List.replicate (N - ds.length) .un) s (kEnd R)) : wp (runF N n ds s) R := wp_run h
end PL
end
section
set_option Elab.async false
set_option linter.all false
/-! PM2: fractions as pairs. -/
namespace PL
open Rat
/-- the pair that stands for q -/
def frD (k : Bool) (q : Rat) : D := .tup k [.int q.num, .int (q.den : Int)]
def isFr (d : D) (q : Rat) : Prop := ∃ k, d = frD k q
theorem isFr.mk (k : Bool) (q : Rat) : isFr (frD k q) q := ⟨k, rfl⟩
/-- at most so many signs -/
def Sz (n : Nat) (q : Rat) : Prop := q.num.natAbs < 2 ^ n ∧ q.den < 2 ^ n
theorem Sz.mono {m n : Nat} {q : Rat} (h : Sz m q) (l : m ≤ n) : Sz n q := ⟨Nat.lt_of_lt_of_le h.1 (Nat.pow_le_pow_right (by decide) l), Nat.lt_of_lt_of_le h.2 (Nat.pow_le_pow_right (by decide) l)⟩
theorem div_num {t b : Int} (hb : 0 < b) : t.fdiv ((Nat.gcd t.natAbs b.natAbs : Nat) : Int) = (t /. b).num := by
  rw [num_divInt, Int.sign_eq_one_of_pos hb, Int.one_mul, Int.fdiv_eq_ediv_of_nonneg _ (by omega)]
  congr 2
  exact Nat.gcd_comm _ _
theorem div_den {t b : Int} (hb : 0 < b) : b.fdiv ((Nat.gcd t.natAbs b.natAbs : Nat) : Int) = ((t /. b).den : Int) := by
  rw [den_divInt, if_neg (by omega), Int.fdiv_eq_ediv_of_nonneg _ (by omega)]
  have e : b = (b.natAbs : Int) := by omega
  show b / _ = ((b.natAbs / Nat.gcd b.natAbs t.natAbs : Nat) : Int)
  rw [Int.natCast_ediv, Nat.gcd_comm, ← e]
theorem neg_neg_div {t b : Int} : (-t) /. (-b) = t /. b := by
  rw [Rat.divInt_eq_div, Rat.divInt_eq_div, Rat.intCast_neg, Rat.intCast_neg]
  by_cases h : (b : Rat) = 0
  · rw [h, Rat.div_def, Rat.div_def, Rat.neg_zero, Rat.inv_zero, Rat.mul_zero, Rat.mul_zero]
  · grind
theorem mulOk_lt {i j : Int} {m n : Nat} (hi : i.natAbs < 2 ^ m) (hj : j.natAbs < 2 ^ n) (h : m + n < 1000000) : mulOk i j = true := by
  refine decide_eq_true ?_
  have h1 : i.natAbs.log2 ≤ m := by
    by_cases z : i.natAbs = 0
    · rw [z]; simp
    · exact Nat.le_of_lt ((Nat.log2_lt z).mpr hi)
  have h2 : j.natAbs.log2 ≤ n := by
    by_cases z : j.natAbs = 0
    · rw [z]; simp
    · exact Nat.le_of_lt ((Nat.log2_lt z).mpr hj)
  omega
theorem divOk_lt {j : Int} {n : Nat} (h0 : j ≠ 0) (hj : j.natAbs < 2 ^ n) (h : n < 9000) : divOk j = true := by
  refine decide_eq_true ⟨h0, ?_⟩
  have h1 := (Nat.log2_lt (n := j.natAbs) (k := n) (by omega)).mpr hj
  omega
/-! sizes of sums and products -/
theorem divInt_sz {t b : Int} {n : Nat} (hb : b ≠ 0) (ht : t.natAbs < 2 ^ n) (hb2 : b.natAbs < 2 ^ n) : Sz n (t /. b) := by
  constructor
  · rw [num_divInt]
    refine Nat.lt_of_le_of_lt ?_ ht
    rw [Int.natAbs_ediv_of_dvd]
    · refine Nat.le_trans (Nat.div_le_self _ _) ?_
      rw [Int.natAbs_mul]
      have : b.sign.natAbs ≤ 1 := by
        rcases Int.lt_trichotomy b 0 with h | h | h
        · rw [Int.sign_eq_neg_one_of_neg h]; decide
        · rw [h]; decide
        · rw [Int.sign_eq_one_of_pos h]; decide
      calc b.sign.natAbs * t.natAbs ≤ 1 * t.natAbs := Nat.mul_le_mul_right _ this
        _ = t.natAbs := Nat.one_mul _
    · exact Int.dvd_trans (Int.gcd_dvd_right _ _) (Int.dvd_mul_left _ _)
  · rw [den_divInt, if_neg hb]
    exact Nat.lt_of_le_of_lt (Nat.div_le_self _ _) hb2
theorem den_ne (q : Rat) : ((q.den : Nat) : Int) ≠ 0 := by have := q.den_nz; omega
theorem add_di (a b : Rat) : a + b = (a.num * b.den + b.num * a.den) /. (a.den * b.den) := by
  have h := Rat.divInt_add_divInt a.num b.num (den_ne a) (den_ne b)
  rw [num_divInt_den, num_divInt_den] at h
  exact h
theorem sub_di (a b : Rat) : a - b = (a.num * b.den - b.num * a.den) /. (a.den * b.den) := by
  have h := Rat.divInt_sub_divInt a.num b.num (den_ne a) (den_ne b)
  rw [num_divInt_den, num_divInt_den] at h
  exact h
theorem mul_di (a b : Rat) : a * b = (a.num * b.num) /. (a.den * b.den) := by
  have h := Rat.divInt_mul_divInt a.num b.num (d₁ := a.den) (d₂ := b.den)
  rw [num_divInt_den, num_divInt_den] at h
  exact h
theorem div_di {a b : Rat} (hb : b ≠ 0) : a / b = (a.num * b.den) /. (a.den * b.num) := by
  have h1 : b.num ≠ 0 := fun e => hb (Rat.num_eq_zero.mp e)
  have ha : a = (a.num : Rat) / (a.den : Rat) := by
    have := num_divInt_den a
    rw [Rat.divInt_eq_div] at this
    exact this.symm
  have hb2 : b = (b.num : Rat) / (b.den : Rat) := by
    have := num_divInt_den b
    rw [Rat.divInt_eq_div] at this
    exact this.symm
  rw [Rat.divInt_eq_div, Rat.intCast_mul, Rat.intCast_mul]
  have d1 : ((a.den : Int) : Rat) ≠ 0 := by
    intro e
    exact den_ne a (by exact_mod_cast e)
  have d2 : ((b.den : Int) : Rat) ≠ 0 := by
    intro e
    exact den_ne b (by exact_mod_cast e)
  have d3 : ((b.num : Int) : Rat) ≠ 0 := by
    intro e
    exact h1 (by exact_mod_cast e)
  have e1 : a = (a.num : Rat) / ((a.den : Int) : Rat) := ha
  have e2 : b = (b.num : Rat) / ((b.den : Int) : Rat) := hb2
  generalize (a.num : Rat) = x1 at *
  generalize ((a.den : Int) : Rat) = x2 at *
  generalize (b.num : Rat) = y1 at *
  generalize ((b.den : Int) : Rat) = y2 at *
  rw [e1, e2]
  grind
theorem pw (m n : Nat) : 2 ^ m * 2 ^ n = 2 ^ (m + n) := (Nat.pow_add _ _ _).symm
theorem Sz.add {m n : Nat} {a b : Rat} (ha : Sz m a) (hb : Sz n b) : Sz (m + n + 1) (a + b) := by
  rw [add_di]
  obtain ⟨h1, h2⟩ := ha
  obtain ⟨h3, h4⟩ := hb
  have p1 := Nat.mul_lt_mul_of_lt_of_lt h1 h4
  have p2 := Nat.mul_lt_mul_of_lt_of_lt h3 h2
  have p3 := Nat.mul_lt_mul_of_lt_of_lt h2 h4
  rw [pw] at p1 p3
  rw [pw, Nat.add_comm n m] at p2
  have e : 2 ^ (m + n + 1) = 2 ^ (m + n) + 2 ^ (m + n) := by rw [Nat.pow_succ]; omega
  refine divInt_sz (by have := den_ne a; have := den_ne b; exact Int.mul_ne_zero (den_ne a) (den_ne b)) ?_ ?_
  · refine Nat.lt_of_le_of_lt (Int.natAbs_add_le _ _) ?_
    rw [Int.natAbs_mul, Int.natAbs_mul, Int.natAbs_natCast, Int.natAbs_natCast]
    omega
  · rw [Int.natAbs_mul, Int.natAbs_natCast, Int.natAbs_natCast]
    omega
theorem Sz.neg {m : Nat} {a : Rat} (ha : Sz m a) : Sz m (-a) := by
  refine ⟨?_, ?_⟩
  · rw [show (-a).num = -a.num from rfl, Int.natAbs_neg]; exact ha.1
  · exact ha.2
theorem Sz.sub {m n : Nat} {a b : Rat} (ha : Sz m a) (hb : Sz n b) : Sz (m + n + 1) (a - b) := by
  rw [Rat.sub_eq_add_neg]
  exact ha.add hb.neg
theorem Sz.mul {m n : Nat} {a b : Rat} (ha : Sz m a) (hb : Sz n b) : Sz (m + n) (a * b) := by
  rw [mul_di]
  obtain ⟨h1, h2⟩ := ha
  obtain ⟨h3, h4⟩ := hb
  have p1 := Nat.mul_lt_mul_of_lt_of_lt h1 h3
  have p3 := Nat.mul_lt_mul_of_lt_of_lt h2 h4
  rw [pw] at p1 p3
  refine divInt_sz (Int.mul_ne_zero (den_ne a) (den_ne b)) ?_ ?_
  · rw [Int.natAbs_mul]; exact p1
  · rw [Int.natAbs_mul, Int.natAbs_natCast, Int.natAbs_natCast]; exact p3
theorem Sz.div {m n : Nat} {a b : Rat} (ha : Sz m a) (hb : Sz n b) (h0 : b ≠ 0) : Sz (m + n) (a / b) := by
  rw [div_di h0]
  have h1' : b.num ≠ 0 := fun e => h0 (Rat.num_eq_zero.mp e)
  obtain ⟨h1, h2⟩ := ha
  obtain ⟨h3, h4⟩ := hb
  have p1 := Nat.mul_lt_mul_of_lt_of_lt h1 h4
  have p3 := Nat.mul_lt_mul_of_lt_of_lt h2 h3
  rw [pw] at p1 p3
  refine divInt_sz (Int.mul_ne_zero (den_ne a) h1') ?_ ?_
  · rw [Int.natAbs_mul, Int.natAbs_natCast]; exact p1
  · rw [Int.natAbs_mul, Int.natAbs_natCast]; exact p3
/-! sizes, top and bottom apart -/
def Fz (n d : Nat) (q : Rat) : Prop := q.num.natAbs ≤ 2 ^ n ∧ q.den ≤ 2 ^ d
theorem Fz.mono {n d n' d' : Nat} {q : Rat} (h : Fz n d q) (h1 : n ≤ n') (h2 : d ≤ d') : Fz n' d' q := ⟨Nat.le_trans h.1 (Nat.pow_le_pow_right (by decide) h1), Nat.le_trans h.2 (Nat.pow_le_pow_right (by decide) h2)⟩
theorem Fz.di {t b : Int} {n d : Nat} (hb : b ≠ 0) (ht : t.natAbs ≤ 2 ^ n) (hd : b.natAbs ≤ 2 ^ d) : Fz n d (t /. b) := by
  constructor
  · rw [num_divInt]
    refine Nat.le_trans ?_ ht
    rw [Int.natAbs_ediv_of_dvd]
    · refine Nat.le_trans (Nat.div_le_self _ _) ?_
      rw [Int.natAbs_mul]
      have : b.sign.natAbs ≤ 1 := by
        rcases Int.lt_trichotomy b 0 with h | h | h
        · rw [Int.sign_eq_neg_one_of_neg h]; decide
        · rw [h]; decide
        · rw [Int.sign_eq_one_of_pos h]; decide
      calc b.sign.natAbs * t.natAbs ≤ 1 * t.natAbs := Nat.mul_le_mul_right _ this
        _ = t.natAbs := Nat.one_mul _
    · exact Int.dvd_trans (Int.gcd_dvd_right _ _) (Int.dvd_mul_left _ _)
  · rw [den_divInt, if_neg hb]
    exact Nat.le_trans (Nat.div_le_self _ _) hd
theorem Fz.add {n d n' d' m : Nat} {a b : Rat} (ha : Fz n d a) (hb : Fz n' d' b) (h1 : n + d' ≤ m) (h2 : n' + d ≤ m) : Fz (m + 1) (d + d') (a + b) := by
  rw [add_di]
  refine Fz.di (Int.mul_ne_zero (den_ne a) (den_ne b)) ?_ ?_
  · refine Nat.le_trans (Int.natAbs_add_le _ _) ?_
    rw [Int.natAbs_mul, Int.natAbs_mul, Int.natAbs_natCast, Int.natAbs_natCast]
    have p1 := Nat.mul_le_mul ha.1 hb.2
    have p2 := Nat.mul_le_mul hb.1 ha.2
    rw [pw] at p1 p2
    have q1 := Nat.pow_le_pow_right (n := 2) (by decide) h1
    have q2 := Nat.pow_le_pow_right (n := 2) (by decide) h2
    rw [Nat.pow_succ]
    omega
  · rw [Int.natAbs_mul, Int.natAbs_natCast, Int.natAbs_natCast, ← pw]
    exact Nat.mul_le_mul ha.2 hb.2
theorem Fz.neg {n d : Nat} {a : Rat} (ha : Fz n d a) : Fz n d (-a) := by
  refine ⟨?_, ha.2⟩
  rw [show (-a).num = -a.num from rfl, Int.natAbs_neg]; exact ha.1
theorem Fz.sub {n d n' d' m : Nat} {a b : Rat} (ha : Fz n d a) (hb : Fz n' d' b) (h1 : n + d' ≤ m) (h2 : n' + d ≤ m) : Fz (m + 1) (d + d') (a - b) := by
  rw [Rat.sub_eq_add_neg]
  exact ha.add hb.neg h1 h2
theorem Fz.mul {n d n' d' : Nat} {a b : Rat} (ha : Fz n d a) (hb : Fz n' d' b) : Fz (n + n') (d + d') (a * b) := by
  rw [mul_di]
  refine Fz.di (Int.mul_ne_zero (den_ne a) (den_ne b)) ?_ ?_
  · rw [Int.natAbs_mul, ← pw]; exact Nat.mul_le_mul ha.1 hb.1
  · rw [Int.natAbs_mul, Int.natAbs_natCast, Int.natAbs_natCast, ← pw]; exact Nat.mul_le_mul ha.2 hb.2
theorem Fz.div {n d n' d' : Nat} {a b : Rat} (ha : Fz n d a) (hb : Fz n' d' b) (h0 : b ≠ 0) : Fz (n + d') (d + n') (a / b) := by
  rw [div_di h0]
  have h1' : b.num ≠ 0 := fun e => h0 (Rat.num_eq_zero.mp e)
  refine Fz.di (Int.mul_ne_zero (den_ne a) h1') ?_ ?_
  · rw [Int.natAbs_mul, Int.natAbs_natCast, ← pw]; exact Nat.mul_le_mul ha.1 hb.2
  · rw [Int.natAbs_mul, Int.natAbs_natCast, ← pw]; exact Nat.mul_le_mul ha.2 hb.1
theorem mulOk_le {i j : Int} {m n : Nat} (hi : i.natAbs ≤ 2 ^ m) (hj : j.natAbs ≤ 2 ^ n) (h : m + n < 900000) : mulOk i j = true :=
  mulOk_lt (m := m + 1) (n := n + 1) (Nat.lt_of_le_of_lt hi (Nat.pow_lt_pow_right (by decide) (by omega))) (Nat.lt_of_le_of_lt hj (Nat.pow_lt_pow_right (by decide) (by omega))) (by omega)
theorem isFr.t {q : Rat} : isFr (frD true q) q := ⟨true, rfl⟩
theorem isFr.f {q : Rat} : isFr (frD false q) q := ⟨false, rfl⟩
end PL
end
section
set_option Elab.async false
set_option linter.all false
/-! PM3: draws. -/
namespace PL
open PySem
@[simp] theorem dealIx0 : dealIx .deal (.int 0) = pure .dealL := rfl
theorem dealIx1_run (s : Dl) : dealIx .deal (.int 1) s = .ok (.int s.mix) s := rfl
theorem dealNe_run (s : Dl) : dealNe .dealL (.lst []) s = .ok (.bl (!s.ds.isEmpty)) s := rfl
theorem dealLast_run {s : Dl} {z : Int} (h : s.ds[s.ds.length - 1]? = some z) : dealIx .dealL (.int (-1)) s = .ok (.int z) s := by
  show (if (-1 : Int) = -1 then (match s.ds[s.ds.length - 1]? with
    | some z => Out.ok (D.int z) s
    | none => .bad) else .bad) = _
  rw [if_pos rfl, h]
theorem dealPop_run {s : Dl} {z : Int} (h : s.ds[s.ds.length - 1]? = some z) : dealPop .dealL s = .ok (.int z) { s with ds := s.ds.dropLast } := by
  show (match s.ds[s.ds.length - 1]? with
    | some z => Out.ok (D.int z) { s with ds := s.ds.dropLast }
    | none => .bad) = _
  rw [h]
theorem dealApp_run {s : Dl} {i : Int} (h : s.ds.length ≤ 1000) : dealApp (.int i) s = .ok .non { s with ds := s.ds ++ [i] } := by
  show (if s.ds.length < sizeLine then Out.ok D.non { s with ds := s.ds ++ [i] } else .bad) = _
  rw [if_pos]
  exact Nat.lt_of_le_of_lt h (by decide)
@[simp] theorem dealAp1_run : dealAp1 .dealL = pure () := rfl
theorem dealSet_run (s : Dl) (i : Int) : dealSet .deal (.int 1) (.int i) s = .ok () { s with mix := i } := rfl
def OkS (s : Dl) : Prop := s.ds.length ≤ 63 ∧ s.mix.natAbs < 2 ^ 31
theorem run_ok {α β : Type} {m : M α} {f : α → M β} {s s' : Dl} {a : α} (h : m s = .ok a s') : (m >>= f) s = f a s' := by rw [bind_run, h]
end PL
end
section
set_option Elab.async false
set_option linter.all false
/-! PM5: points and triangles. -/
namespace PL
open PySem
def PtD (B : Nat) (d : D) : Prop := ∃ (k : Bool) (x y : Int), d = .tup k [.int x, .int y] ∧ x.natAbs ≤ B ∧ y.natAbs ≤ B
def TriD (n : Nat) (d : D) : Prop := ∃ (k : Bool) (a b c : Nat), d = .tup k [.int a, .int b, .int c] ∧ a < n ∧ b < n ∧ c < n
theorem PtD.mono {B C : Nat} {d : D} (h : PtD B d) (l : B ≤ C) : PtD C d := by
  obtain ⟨k, x, y, e, h1, h2⟩ := h
  exact ⟨k, x, y, e, by omega, by omega⟩
theorem TriD.mono {m n : Nat} {d : D} (h : TriD m d) (l : m ≤ n) : TriD n d := by
  obtain ⟨k, a, b, c, e, h1, h2, h3⟩ := h
  exact ⟨k, a, b, c, e, by omega, by omega, by omega⟩
theorem addD_lst {l r : List D} (h : l.length + r.length ≤ 1000) : addD (.lst l) (.lst r) = pure (.lst (l ++ r)) := by
  show (if l.length + r.length ≤ sizeLine then (pure (D.lst (l ++ r)) : M D) else fail) = _
  rw [if_pos]
  exact Nat.le_trans h (by decide)
theorem blkM_ok {own : List Nat} {n : PEnv → M (List D)} {g : D → PEnv → Option PEnv} {mt : PEnv → M Bool} {me : PEnv → M D} {ρ : PEnv} {ds : List D} {s s1 : Dl} (hn : n ρ s = .ok ds s1) (hl : ds.length ≤ 1000) (hf : ownFree ρ own = true) :
    blkM own n g mt me ρ s = compM g mt me ds (wipeE ρ own) s1 := by
  unfold blkM
  rw [run_ok hn, if_pos ⟨Nat.lt_of_le_of_lt hl (by decide), hf⟩, lift_some, pure_bind']
theorem le_sz {n : Nat} (h : n ≤ 1000) : n ≤ sizeLine := Nat.le_trans h (by decide)
@[simp] theorem asI_int (i : Int) : asI (.int i) = pure i := rfl
theorem slice_lst (l : List D) (a b : Option Int) : sliceD (.lst l) a b = pure (.lst (cutL l a b)) := rfl
theorem cut_to (l : List D) (k : Nat) : cutL l none (some (k : Int)) = l.take k := by
  unfold cutL
  rw [HT.sIx_none, HT.sIx_nat, List.drop_zero, Nat.sub_zero, List.take_eq_take_iff]
  omega
theorem cut_from (l : List D) (k : Nat) : cutL l (some (k : Int)) none = l.drop k := by
  unfold cutL
  rw [HT.sIx_none, HT.sIx_nat]
  by_cases h : k ≤ l.length
  · rw [Nat.min_eq_left h, List.take_of_length_le (by rw [List.length_drop]; omega)]
  · rw [Nat.min_eq_right (by omega), List.drop_of_length_le (Nat.le_refl _), List.drop_of_length_le (by omega)]
    simp
end PL
end
section
set_option Elab.async false
set_option linter.all false
set_option maxRecDepth 10000
/-! PM6: dicts, sorted lists, plain data. -/
namespace PL
open PySem L2 PyProof.Rows
/-! dicts -/
theorem mem_putD {l : List (D × D)} {y v : D} {p : D × D} (h : p ∈ putD l y v) : p ∈ l ∨ (p.2 = v ∧ (p.1 = y ∨ ∃ q ∈ l, q.1 = p.1)) := by
  unfold putD at h
  split at h
  · obtain ⟨q, hq, e⟩ := List.mem_map.mp h
    split at e
    · subst e
      exact .inr ⟨rfl, .inr ⟨q, hq, rfl⟩⟩
    · subst e
      exact .inl hq
  · rcases List.mem_append.mp h with h | h
    · exact .inl h
    · simp at h
      subst h
      exact .inr ⟨rfl, .inl rfl⟩
theorem findD_mem {l : List (D × D)} {k : DK} {v : D} (h : findD l k = some v) : ∃ p ∈ l, p.2 = v ∧ dkey p.1 = some k := by
  unfold findD at h
  rw [Option.map_eq_some_iff] at h
  obtain ⟨p, h1, h2⟩ := h
  exact ⟨p, List.mem_of_find?_eq_some h1, h2, of_decide_eq_true (List.find?_some (p := fun (p : D × D) => decide (dkey p.1 = some k)) h1)⟩
@[simp] theorem dkey_int {i : Int} : dkey (.int i) = some (.inl (.inl i)) := id rfl
@[simp] theorem dkey_t2 {a b : Int} : dkey (.tup false [.int a, .int b]) = some (.inr [.inl a, .inl b]) := id rfl
@[simp] theorem dkey_t3 {a b c : Int} : dkey (.tup false [.int a, .int b, .int c]) = some (.inr [.inl a, .inl b, .inl c]) := id rfl
@[simp] theorem keyKind_int {i : Int} : keyKind false (.int i) = some () := id rfl
@[simp] theorem keyKind_t2 {a b : Int} : keyKind true (.tup false [.int a, .int b]) = some () := id rfl
@[simp] theorem inAny_dk {i : Int} {l : List (D × D)} : inAny (.int i) (.dic false l) = pure (.bl (findD l (.inl (.inl i))).isSome) := id rfl
@[simp] theorem ninAny_dk {i : Int} {l : List (D × D)} : ninAny (.int i) (.dic false l) = pure (.bl (!(findD l (.inl (.inl i))).isSome)) := id rfl
@[simp] theorem inAny_dt {a b : Int} {l : List (D × D)} : inAny (.tup false [.int a, .int b]) (.dic true l) = pure (.bl (findD l (.inr [.inl a, .inl b])).isSome) := id rfl
@[simp] theorem ninAny_dt {a b : Int} {l : List (D × D)} : ninAny (.tup false [.int a, .int b]) (.dic true l) = pure (.bl (!(findD l (.inr [.inl a, .inl b])).isSome)) := id rfl
@[simp] theorem isDicO_d {t : Bool} {l : List (D × D)} : isDicO (.dic t l) = some () := id rfl
@[simp] theorem getDic_dt {a b : Int} {l : List (D × D)} {z : D} : getDic (.dic true l) (.tup false [.int a, .int b]) z = pure ((findD l (.inr [.inl a, .inl b])).getD z) := id rfl
@[simp] theorem getDic_dk {i : Int} {l : List (D × D)} {z : D} : getDic (.dic false l) (.int i) z = pure ((findD l (.inl (.inl i))).getD z) := id rfl
@[simp] theorem subAny_dt {a b : Int} {l : List (D × D)} : subAny (.dic true l) (.tup false [.int a, .int b]) = lift (findD l (.inr [.inl a, .inl b])) := id rfl
@[simp] theorem subAny_dk {i : Int} {l : List (D × D)} : subAny (.dic false l) (.int i) = lift (findD l (.inl (.inl i))) := id rfl
theorem find_map_none {l : List (D × D)} {y v : D} {k : DK} (h : dkey y ≠ some k) : ((l.map fun p => if dkey p.1 = dkey y then (p.1, v) else p).find? fun p => decide (dkey p.1 = some k)) = l.find? fun p => decide (dkey p.1 = some k) := by
  induction l with
  | nil => rfl
  | cons p l ih =>
    rw [List.map_cons, List.find?_cons, List.find?_cons, ih]
    by_cases e : dkey p.1 = dkey y
    · rw [if_pos e]
      have n : ¬ dkey p.1 = some k := fun z => h (e ▸ z)
      simp [n]
    · rw [if_neg e]
theorem find_map_some {l : List (D × D)} {y v : D} {k : DK} (h : dkey y = some k) (ha : (l.any fun p => decide (dkey p.1 = dkey y)) = true) : (((l.map fun p => if dkey p.1 = dkey y then (p.1, v) else p).find? fun p => decide (dkey p.1 = some k)).map (·.2)) = some v := by
  induction l with
  | nil => simp at ha
  | cons p l ih =>
    rw [List.map_cons, List.find?_cons]
    by_cases e : dkey p.1 = dkey y
    · rw [if_pos e]
      simp [e, h]
    · rw [if_neg e]
      have n : ¬ dkey p.1 = some k := fun z => e (z.trans h.symm)
      rw [List.any_cons] at ha
      simp only [e, decide_false, Bool.false_or] at ha
      have := ih ha
      simpa [n] using this
theorem findD_put {l : List (D × D)} {y v : D} {k k' : DK} (hy : dkey y = some k') : findD (putD l y v) k = if k = k' then some v else findD l k := by
  unfold findD putD
  by_cases e : k = k'
  · subst e
    rw [if_pos rfl]
    by_cases ha : (l.any fun p => decide (dkey p.1 = dkey y)) = true
    · rw [if_pos ha]
      exact find_map_some hy ha
    · rw [if_neg ha, List.find?_append]
      have hn : (l.find? fun p => decide (dkey p.1 = some k)) = none := by
        rw [List.find?_eq_none]
        intro p hp q
        exact ha (List.any_eq_true.mpr ⟨p, hp, by rw [hy]; exact q⟩)
      rw [hn]
      simp [hy]
  · rw [if_neg e]
    have n : dkey y ≠ some k := by rw [hy]; exact fun z => e (Option.some.inj z).symm
    by_cases ha : (l.any fun p => decide (dkey p.1 = dkey y)) = true
    · rw [if_pos ha, find_map_none n]
    · rw [if_neg ha, List.find?_append]
      have n2 : ([(y, v)].find? fun p => decide (dkey p.1 = some k)) = none := by simp [n]
      rw [n2]
      simp
@[simp] theorem findD_nil {k : DK} : findD [] k = none := id rfl
theorem findD_put_int {l : List (D × D)} {v : D} {i j : Int} : findD (putD l (.int i) v) (.inl (.inl j)) = if j = i then some v else findD l (.inl (.inl j)) := by
  rw [findD_put (k' := .inl (.inl i)) rfl]
  by_cases e : j = i
  · subst e; rw [if_pos rfl, if_pos rfl]
  · rw [if_neg e, if_neg]
    intro z
    cases z
    exact e rfl
/-! enumerate, zip -/
@[simp] theorem enumO_l {l : List D} : enumO (.lst l) = some (enumL l) := id rfl
theorem enum_get {l : List D} {i : Nat} {d : D} (h : (enumL l)[i]? = some d) : ∃ x, l[i]? = some x ∧ d = .tup false [.int (i : Int), x] := by
  unfold enumL at h
  rw [List.getElem?_map, List.getElem?_zipIdx] at h
  cases e : l[i]? with
  | none => rw [e] at h; simp at h
  | some x =>
    rw [e] at h
    simp at h
    exact ⟨x, rfl, h.symm⟩
@[simp] theorem enum_len {l : List D} : (enumL l).length = l.length := by unfold enumL; simp
@[simp] theorem zipO_ll {l r : List D} : zipO (.lst l) (.lst r) = some (zipL l r) := id rfl
/-! plain data: whole numbers in tuples, lists -/
inductive Pl : Nat → D → Prop
  | int (n : Nat) (i : Int) : Pl n (.int i)
  | bl (n : Nat) (b : Bool) : Pl n (.bl b)
  | tup {n : Nat} (k : Bool) {l : List D} : (∀ d ∈ l, Pl n d) → Pl (n + 1) (.tup k l)
  | lst {n : Nat} {l : List D} : (∀ d ∈ l, Pl n d) → Pl (n + 1) (.lst l)
theorem toPyA_map {l : List D} (h : ∀ d ∈ l, toPy d = some (encD d)) : toPyA l = some (l.map encD) := by
  induction l with
  | nil => rfl
  | cons d l ih =>
    rw [toPyA, h d (by simp), Option.bind_some, ih fun e he => h e (by simp [he])]
    rfl
theorem depthAll_le {ps : List PyData} {n : Nat} (h : ∀ p ∈ ps, p.depth ≤ n) : PyData.depthAll ps ≤ n := by
  induction ps with
  | nil => simp [PyData.depthAll]
  | cons p ps ih =>
    simp only [PyData.depthAll]
    have h1 := h p (by simp)
    have h2 := ih fun q hq => h q (by simp [hq])
    omega
theorem canLayAll_of {ps : List PyData} (h : ∀ p ∈ ps, p.canLay0 = true) : PyData.canLayAll0 ps = true := by
  induction ps with
  | nil => simp [PyData.canLayAll0]
  | cons p ps ih =>
    simp only [PyData.canLayAll0, Bool.and_eq_true]
    exact ⟨h p (by simp), ih fun q hq => h q (by simp [hq])⟩
theorem Pl.py {n : Nat} {d : D} (h : Pl n d) : toPy d = some (encD d) ∧ (encD d).canLay0 = true ∧ (encD d).depth ≤ n := by
  induction h with
  | int n i => exact ⟨rfl, by simp [encD, toPy, PyData.canLay0], by simp [encD, toPy, PyData.depth]⟩
  | bl n i => exact ⟨rfl, by simp [encD, toPy, PyData.canLay0], by simp [encD, toPy, PyData.depth]⟩
  | tup k h ih =>
    rename_i n l
    have e : toPy (.tup k l) = some (.tuple (l.map encD)) := by rw [toPy, toPyA_map fun d hd => (ih d hd).1]; rfl
    have e2 : encD (.tup k l) = .tuple (l.map encD) := by unfold encD; rw [e]; rfl
    refine ⟨by rw [e2]; exact e, ?_, ?_⟩
    · rw [e2]
      simp only [PyData.canLay0]
      refine canLayAll_of fun p hp => ?_
      obtain ⟨d, hd, rfl⟩ := List.mem_map.mp hp
      exact (ih d hd).2.1
    · rw [e2]
      simp only [PyData.depth]
      refine Nat.succ_le_succ (depthAll_le fun p hp => ?_)
      obtain ⟨d, hd, rfl⟩ := List.mem_map.mp hp
      exact (ih d hd).2.2
  | lst h ih =>
    rename_i n l
    have e : toPy (.lst l) = some (.list (l.map encD)) := by rw [toPy, toPyA_map fun d hd => (ih d hd).1]; rfl
    have e2 : encD (.lst l) = .list (l.map encD) := by unfold encD; rw [e]; rfl
    refine ⟨by rw [e2]; exact e, ?_, ?_⟩
    · rw [e2]
      simp only [PyData.canLay0]
      refine canLayAll_of fun p hp => ?_
      obtain ⟨d, hd, rfl⟩ := List.mem_map.mp hp
      exact (ih d hd).2.1
    · rw [e2]
      simp only [PyData.depth]
      refine Nat.succ_le_succ (depthAll_le fun p hp => ?_)
      obtain ⟨d, hd, rfl⟩ := List.mem_map.mp hp
      exact (ih d hd).2.2
theorem Pl.mono {m n : Nat} {d : D} (h : Pl m d) (l : m ≤ n) : Pl n d := by
  induction h generalizing n with
  | int _ i => exact .int n i
  | bl _ b => exact .bl n b
  | tup k h ih =>
    obtain ⟨n, rfl⟩ : ∃ j, n = j + 1 := ⟨n - 1, by omega⟩
    exact .tup k fun d hd => ih d hd (by omega)
  | lst h ih =>
    obtain ⟨n, rfl⟩ : ∃ j, n = j + 1 := ⟨n - 1, by omega⟩
    exact .lst fun d hd => ih d hd (by omega)
theorem Pl.shaped {n : Nat} {d : D} (h : Pl n d) (hn : n ≤ 60) : SeqAt.shaped (encD d) = true := by
  obtain ⟨_, h1, h2⟩ := h.py
  unfold SeqAt.shaped
  rw [h1, decide_eq_true (by omega)]
  rfl
theorem enc_int (i : Int) : encD (.int i) = .int i := rfl
theorem Pl.enc_tup {n : Nat} {k : Bool} {l : List D} (h : ∀ d ∈ l, Pl n d) : encD (.tup k l) = .tuple (l.map encD) := by
  have e : toPy (.tup k l) = some (.tuple (l.map encD)) := by rw [toPy, toPyA_map fun d hd => (h d hd).py.1]; rfl
  unfold encD; rw [e]; rfl
theorem Pl.enc_lst {n : Nat} {l : List D} (h : ∀ d ∈ l, Pl n d) : encD (.lst l) = .list (l.map encD) := by
  have e : toPy (.lst l) = some (.list (l.map encD)) := by rw [toPy, toPyA_map fun d hd => (h d hd).py.1]; rfl
  unfold encD; rw [e]; rfl
theorem eqB_pl {n : Nat} {a b : D} (ha : Pl n a) (hb : Pl n b) (hn : n ≤ 60) : eqB a b = pure (PyData.eqv (encD a) (encD b)) := by
  unfold eqB
  rw [ha.py.1, hb.py.1]
  simp only [ha.shaped hn, hb.shaped hn, Bool.and_self, if_true]
theorem eqD_pl {n : Nat} {a b : D} (ha : Pl n a) (hb : Pl n b) (hn : n ≤ 60) : eqD a b = pure (.bl (PyData.eqv (encD a) (encD b))) := by
  unfold eqD
  rw [eqB_pl ha hb hn]
  rfl
theorem neD_pl {n : Nat} {a b : D} (ha : Pl n a) (hb : Pl n b) (hn : n ≤ 60) : neD a b = pure (.bl (!PyData.eqv (encD a) (encD b))) := by
  unfold neD
  rw [eqB_pl ha hb hn]
  rfl
theorem eqv_nil {n : Nat} {l : List D} (h : ∀ d ∈ l, Pl n d) : PyData.eqv (encD (.lst l)) (encD (.lst [])) = decide (l = []) := by
  rw [Pl.enc_lst h, Pl.enc_lst (n := 0) (l := []) (by simp)]
  cases l with
  | nil => simp [PyData.eqv, PyData.eqvAll]
  | cons d l => simp [PyData.eqv, PyData.eqvAll]
theorem eqD_nil {n : Nat} {l : List D} (h : ∀ d ∈ l, Pl n d) (hn : n < 60) : eqD (.lst l) (.lst []) = pure (.bl (decide (l = []))) := by
  rw [eqD_pl (.lst h) (.lst (l := []) (by simp)) (by omega), eqv_nil h]
theorem neD_nil {n : Nat} {l : List D} (h : ∀ d ∈ l, Pl n d) (hn : n < 60) : neD (.lst l) (.lst []) = pure (.bl (!decide (l = []))) := by
  rw [neD_pl (.lst h) (.lst (l := []) (by simp)) (by omega), eqv_nil h]
/-- ints side by side -/
def IntT (n : Nat) (d : D) : Prop := ∃ (k : Bool) (is : List Int), d = .tup k (is.map D.int) ∧ is.length = n
theorem pl_ints (is : List Int) : ∀ d ∈ is.map D.int, Pl 0 d := fun d hd => by
  obtain ⟨i, _, rfl⟩ := List.mem_map.mp hd
  exact .int 0 i
theorem IntT.pl {n : Nat} {d : D} (h : IntT n d) : Pl 1 d := by
  obtain ⟨k, is, rfl, _⟩ := h
  exact .tup k (pl_ints is)
theorem enc_ints (k : Bool) (is : List Int) : encD (.tup k (is.map D.int)) = .tuple (is.map PyData.int) := by
  rw [Pl.enc_tup (pl_ints is), List.map_map]
  rfl
theorem alike_ints : ∀ (a b : List Int), a.length = b.length → PySem.W.alikeAll (a.map PyData.int) (b.map PyData.int) = true
  | [], _, _ => by simp [PySem.W.alikeAll]
  | x :: a, [], h => by simp at h
  | x :: a, y :: b, h => by
    simp only [List.map_cons, PySem.W.alikeAll, PySem.W.alike, Bool.true_and]
    exact alike_ints a b (by simpa using h)
theorem pyOk_ints {n : Nat} (hn : 0 < n) {l : List D} (h : ∀ d ∈ l, IntT n d) : pyOk (l.map encD) = true := by
  unfold pyOk
  have h1 : ∀ p ∈ l.map encD, ∃ is : List Int, p = .tuple (is.map PyData.int) ∧ is.length = n := by
    intro p hp
    obtain ⟨d, hd, rfl⟩ := List.mem_map.mp hp
    obtain ⟨k, is, rfl, e⟩ := h d hd
    exact ⟨is, enc_ints k is, e⟩
  have a1 : ((l.map encD).all fun d => (l.map encD).all fun d' => PySem.W.alike d d') = true := by
    refine List.all_eq_true.mpr fun p hp => List.all_eq_true.mpr fun q hq => ?_
    obtain ⟨a, rfl, ha⟩ := h1 p hp
    obtain ⟨b, rfl, hb⟩ := h1 q hq
    simp only [PySem.W.alike]
    exact alike_ints a b (by omega)
  have a2 : (l.map encD).all isTup1 = true := by
    refine List.all_eq_true.mpr fun p hp => ?_
    obtain ⟨a, rfl, ha⟩ := h1 p hp
    cases a with
    | nil => simp at ha; omega
    | cons x a => rfl
  have a3 : PyData.depthAll (l.map encD) ≤ 60 := depthAll_le fun p hp => by
    obtain ⟨d, hd, rfl⟩ := List.mem_map.mp hp
    exact Nat.le_trans (h d hd).pl.py.2.2 (by decide)
  rw [a1, a2, decide_eq_true a3]
  rfl
theorem pyOk_int {l : List D} (h : ∀ d ∈ l, ∃ i : Int, d = .int i) : pyOk (l.map encD) = true := by
  unfold pyOk
  have h1 : ∀ p ∈ l.map encD, ∃ i : Int, p = .int i := by
    intro p hp
    obtain ⟨d, hd, rfl⟩ := List.mem_map.mp hp
    obtain ⟨i, rfl⟩ := h d hd
    exact ⟨i, rfl⟩
  have a1 : ((l.map encD).all fun d => (l.map encD).all fun d' => PySem.W.alike d d') = true := by
    refine List.all_eq_true.mpr fun p hp => List.all_eq_true.mpr fun q hq => ?_
    obtain ⟨a, rfl⟩ := h1 p hp
    obtain ⟨b, rfl⟩ := h1 q hq
    simp only [PySem.W.alike]
  have a2 : (l.map encD).all isOther = true := by
    refine List.all_eq_true.mpr fun p hp => ?_
    obtain ⟨a, rfl⟩ := h1 p hp
    rfl
  have a3 : PyData.depthAll (l.map encD) ≤ 60 := depthAll_le fun p hp => by
    obtain ⟨a, rfl⟩ := h1 p hp
    simp [PyData.depth]
  rw [a1, a2, decide_eq_true a3, Bool.or_true]
  rfl
theorem any_ints (i : Int) (is : List Int) : ((is.map PyData.int).any fun z => PyData.eqv z (.int i)) = decide (i ∈ is) := by
  induction is with
  | nil => simp
  | cons j is ih =>
    simp only [List.map_cons, List.any_cons, ih, PyData.eqv, List.mem_cons]
    by_cases e : i = j
    · subst e; simp
    · have : ¬ j = i := fun z => e z.symm
      simp [e, this]
theorem inAny_ti {k : Bool} {i : Int} {is : List Int} : inAny (.int i) (.tup k (is.map D.int)) = pure (.bl (decide (i ∈ is))) := by
  show inSeqD (.int i) (.tup k (is.map D.int)) = _
  have p : Pl 1 (.tup k (is.map D.int)) := .tup k (pl_ints is)
  have e : toPy (.tup k (is.map D.int)) = some (.tuple (is.map PyData.int)) := by rw [p.py.1, enc_ints]
  have sh := p.shaped (by omega)
  rw [enc_ints] at sh
  unfold inSeqD inSeqO
  rw [e]
  simp only [toPy, shaped_int, sh, Bool.and_self, if_true, Option.map_some, lift_some, any_ints]
theorem enc_intl (is : List Int) : encD (.lst (is.map D.int)) = .list (is.map PyData.int) := by
  rw [Pl.enc_lst (pl_ints is), List.map_map]
  rfl
theorem inAny_li {i : Int} {is : List Int} : inAny (.int i) (.lst (is.map D.int)) = pure (.bl (decide (i ∈ is))) := by
  show inSeqD (.int i) (.lst (is.map D.int)) = _
  have p : Pl 1 (.lst (is.map D.int)) := .lst (pl_ints is)
  have e : toPy (.lst (is.map D.int)) = some (.list (is.map PyData.int)) := by rw [p.py.1, enc_intl]
  have sh := p.shaped (by omega)
  rw [enc_intl] at sh
  unfold inSeqD inSeqO
  rw [e]
  simp only [toPy, shaped_int, sh, Bool.and_self, if_true, Option.map_some, lift_some, any_ints]
@[simp] theorem inAny_t3 {k : Bool} {i a b c : Int} : inAny (.int i) (.tup k [.int a, .int b, .int c]) = pure (.bl (decide (i ∈ [a, b, c]))) := inAny_ti (is := [a, b, c])
@[simp] theorem inAny_t2 {k : Bool} {i a b : Int} : inAny (.int i) (.tup k [.int a, .int b]) = pure (.bl (decide (i ∈ [a, b]))) := inAny_ti (is := [a, b])
@[simp] theorem inAny_l2 {i a b : Int} : inAny (.int i) (.lst [.int a, .int b]) = pure (.bl (decide (i ∈ [a, b]))) := inAny_li (is := [a, b])
theorem sortL_perm (l : List D) : (sortL l).Perm l := List.mergeSort_perm _ _
theorem sortL_mem {l : List D} {d : D} : d ∈ sortL l ↔ d ∈ l := (sortL_perm l).mem_iff
@[simp] theorem sortL_len {l : List D} : (sortL l).length = l.length := (sortL_perm l).length_eq
theorem sortA_l {n : Nat} (hn : 0 < n) {l : List D} (h : ∀ d ∈ l, IntT n d) : sortAO (.lst l) = some (sortL l) := by
  show (toPyA l).bind (fun ps => if pyOk ps = true then some (sortL l) else none) = _
  rw [toPyA_map fun d hd => (h d hd).pl.py.1, Option.bind_some, if_pos (pyOk_ints hn h)]
theorem sortA_d {n : Nat} (hn : 0 < n) {t : Bool} {l : List (D × D)} (h : ∀ p ∈ l, IntT n p.1) : sortAO (.dic t l) = some (sortL (l.map (·.1))) := by
  show (toPyA (keysD l)).bind (fun ps => if pyOk ps = true then some (sortL (keysD l)) else none) = _
  have h : ∀ d ∈ keysD l, IntT n d := fun d hd => by
    obtain ⟨p, hp, rfl⟩ := List.mem_map.mp hd
    exact h p hp
  rw [toPyA_map fun d hd => (h d hd).pl.py.1, Option.bind_some, if_pos (pyOk_ints hn h)]
  rfl
theorem sortA_di {t : Bool} {l : List (D × D)} (h : ∀ p ∈ l, ∃ i : Int, p.1 = .int i) : sortAO (.dic t l) = some (sortL (l.map (·.1))) := by
  show (toPyA (keysD l)).bind (fun ps => if pyOk ps = true then some (sortL (keysD l)) else none) = _
  have h : ∀ d ∈ keysD l, ∃ i : Int, d = .int i := fun d hd => by
    obtain ⟨p, hp, rfl⟩ := List.mem_map.mp hd
    exact h p hp
  have h2 : ∀ d ∈ keysD l, toPy d = some (encD d) := fun d hd => by
    obtain ⟨i, rfl⟩ := h d hd
    rfl
  rw [toPyA_map h2, Option.bind_some, if_pos (pyOk_int h)]
  rfl
theorem sortA_li {l : List D} (h : ∀ d ∈ l, ∃ i : Int, d = .int i) : sortAO (.lst l) = some (sortL l) := by
  show (toPyA l).bind (fun ps => if pyOk ps = true then some (sortL l) else none) = _
  have h2 : ∀ d ∈ l, toPy d = some (encD d) := fun d hd => by
    obtain ⟨i, rfl⟩ := h d hd
    rfl
  rw [toPyA_map h2, Option.bind_some, if_pos (pyOk_int h)]
theorem mapM_ints (is : List Int) : (is.map D.int).mapM asIO = some is := by
  induction is with
  | nil => rfl
  | cons i is ih =>
    rw [List.map_cons, List.mapM_cons, ih]
    rfl
theorem sumO_l (is : List Int) : sumO (.lst (is.map D.int)) = some (.int is.sum) := by
  show ((is.map D.int).mapM asIO).map (fun ns => D.int ns.sum) = _
  rw [mapM_ints]
  rfl
@[simp] theorem sumO_3 {a b c : Int} : sumO (.lst [.int a, .int b, .int c]) = some (.int (a + (b + (c + 0)))) := by
  rw [show [D.int a, .int b, .int c] = [a, b, c].map D.int from rfl, sumO_l]
  rfl
theorem turn3 {k : Bool} {a b c : D} {t : Nat} (ht : t < 3) : ∃ x y z, (sliceD (.tup false [a, b, c, a, b, c]) (some (t : Int)) (some ((t : Int) + 3)) : M D) = pure (.tup false [x, y, z]) ∧ ((x = a ∧ y = b ∧ z = c) ∨ (x = b ∧ y = c ∧ z = a) ∨ (x = c ∧ y = a ∧ z = b)) := by
  match t, ht with
  | 0, _ => exact ⟨a, b, c, rfl, .inl ⟨rfl, rfl, rfl⟩⟩
  | 1, _ => exact ⟨b, c, a, rfl, .inr (.inl ⟨rfl, rfl, rfl⟩)⟩
  | 2, _ => exact ⟨c, a, b, rfl, .inr (.inr ⟨rfl, rfl, rfl⟩)⟩
theorem fr_pl (k : Bool) (q : Rat) : Pl 1 (frD k q) := .tup k (pl_ints [q.num, (q.den : Int)])
theorem enc_fr (k : Bool) (q : Rat) : encD (frD k q) = .tuple [.int q.num, .int (q.den : Int)] := enc_ints k [q.num, (q.den : Int)]
theorem eqv_fr (k k' : Bool) (p q : Rat) : PyData.eqv (encD (frD k p)) (encD (frD k' q)) = decide (p = q) := by
  rw [enc_fr, enc_fr]
  simp only [PyData.eqv, PyData.eqvAll, Bool.and_true]
  by_cases h : p = q
  · subst h; simp
  · rw [decide_eq_false h]
    by_cases h1 : p.num = q.num
    · have h2 : ¬ p.den = q.den := fun e => h (Rat.ext h1 e)
      simp [h1]
      exact fun e => h2 (Int.ofNat_inj.mp e)
    · simp [h1]
theorem eqD_fr {k k' : Bool} {p q : Rat} : eqD (frD k p) (frD k' q) = pure (.bl (decide (p = q))) := by rw [eqD_pl (fr_pl k p) (fr_pl k' q) (by omega), eqv_fr]
theorem neD_fr {k k' : Bool} {p q : Rat} : neD (frD k p) (frD k' q) = pure (.bl (!decide (p = q))) := by rw [neD_pl (fr_pl k p) (fr_pl k' q) (by omega), eqv_fr]
end PL
end
section
set_option Elab.async false
set_option linter.all false
/-! PG: which share of a triangle lies above a level. -/
namespace PL
def fr1 (l z x y : Rat) : Rat := (z - l) * (z - l) / ((z - x) * (z - y))
def fr2 (l x y z : Rat) : Rat := 1 - (l - x) * (l - x) / ((y - x) * (z - x))
/-- the share, by the worths at the corners -/
def sh (l a b c : Rat) : Rat :=
  if l ≤ a then (if l ≤ b then (if l ≤ c then 1 else fr2 l c a b) else (if l ≤ c then fr2 l b a c else fr1 l a b c))
  else (if l ≤ b then (if l ≤ c then fr2 l a b c else fr1 l b a c) else (if l ≤ c then fr1 l c a b else 0))
theorem fr1_comm (l z x y : Rat) : fr1 l z x y = fr1 l z y x := by unfold fr1; rw [Rat.mul_comm (z - x)]
theorem fr2_comm (l x y z : Rat) : fr2 l x y z = fr2 l x z y := by unfold fr2; rw [Rat.mul_comm (y - x)]
theorem sh_swap1 (l a b c : Rat) : sh l b a c = sh l a b c := by
  unfold sh
  by_cases h1 : l ≤ a <;> by_cases h2 : l ≤ b <;> by_cases h3 : l ≤ c <;> simp [h1, h2, h3, fr1_comm, fr2_comm]
theorem sh_swap2 (l a b c : Rat) : sh l a c b = sh l a b c := by
  unfold sh
  by_cases h1 : l ≤ a <;> by_cases h2 : l ≤ b <;> by_cases h3 : l ≤ c <;> simp [h1, h2, h3]
  · exact fr1_comm _ _ _ _
  · exact fr2_comm _ _ _ _
/-- the law's share of three worths in order -/
theorem sh_sorted {l x y z : Rat} (h1 : x ≤ y) (h2 : y ≤ z) : sh l x y z = if ¬ x < l then 1 else if z < l then 0 else if y < l then fr1 l z x y else fr2 l x y z := by
  unfold sh
  by_cases a : l ≤ x
  · have b : l ≤ y := Rat.le_trans a h1
    have c : l ≤ z := Rat.le_trans b h2
    have d : ¬ x < l := Rat.not_lt.mpr a
    simp [a, b, c, d]
  · have a' : x < l := Rat.not_le.mp a
    by_cases b : l ≤ y
    · have c : l ≤ z := Rat.le_trans b h2
      have b' : ¬ y < l := Rat.not_lt.mpr b
      have c' : ¬ z < l := Rat.not_lt.mpr c
      simp [a, a', b, b', c, c']
    · have b' : y < l := Rat.not_le.mp b
      by_cases c : l ≤ z
      · have c' : ¬ z < l := Rat.not_lt.mpr c
        simp [a, a', b, b', c, c']
      · have c' : z < l := Rat.not_le.mp c
        simp [a, a', b, b', c, c']
/-- the share added up below a level -/
def pr (l a b c : Rat) : Rat :=
  if l ≤ a then (if l ≤ b then (if l ≤ c then l else l - (l - c) * (l - c) * (l - c) / (3 * ((a - c) * (b - c)))) else (if l ≤ c then l - (l - b) * (l - b) * (l - b) / (3 * ((a - b) * (c - b))) else (a + b + c) / 3 - (a - l) * (a - l) * (a - l) / (3 * ((a - b) * (a - c)))))
  else (if l ≤ b then (if l ≤ c then l - (l - a) * (l - a) * (l - a) / (3 * ((b - a) * (c - a))) else (a + b + c) / 3 - (b - l) * (b - l) * (b - l) / (3 * ((b - a) * (b - c)))) else (if l ≤ c then (a + b + c) / 3 - (c - l) * (c - l) * (c - l) / (3 * ((c - a) * (c - b))) else (a + b + c) / 3))
theorem pr_swap1 (l a b c : Rat) : pr l b a c = pr l a b c := by
  unfold pr
  by_cases h1 : l ≤ a <;> by_cases h2 : l ≤ b <;> by_cases h3 : l ≤ c <;> simp [h1, h2, h3] <;> grind
theorem pr_swap2 (l a b c : Rat) : pr l a c b = pr l a b c := by
  unfold pr
  by_cases h1 : l ≤ a <;> by_cases h2 : l ≤ b <;> by_cases h3 : l ≤ c <;> simp [h1, h2, h3] <;> grind
theorem mul_ne {a b : Rat} (h1 : a ≠ 0) (h2 : b ≠ 0) : a * b ≠ 0 := fun e => by
  rcases Rat.mul_eq_zero.mp e with h | h
  · exact h1 h
  · exact h2 h
theorem cancel3 {w v : Rat} (hw : w ≠ 0) (hv : v ≠ 0) : w * w * w / (3 * (w * v)) = w * w / (3 * v) := by
  have h3 : (3 : Rat) ≠ 0 := by decide
  have n1 : 3 * (w * v) ≠ 0 := mul_ne h3 (mul_ne hw hv)
  have n2 : 3 * v ≠ 0 := mul_ne h3 hv
  grind
theorem pr_mid {x y z : Rat} (h1 : x < y) (h2 : x < z) : y - (y - x) * (y - x) * (y - x) / (3 * ((y - x) * (z - x))) = (x + y + z) / 3 - (z - y) * (z - y) * (z - y) / (3 * ((z - x) * (z - y))) := by
  have h5 : y - x ≠ 0 := by grind
  have h3 : z - x ≠ 0 := by grind
  have n3 : 3 * (z - x) ≠ 0 := mul_ne (by decide) h3
  rw [cancel3 h5 h3]
  by_cases h : z = y
  · subst h
    grind
  · have h4 : z - y ≠ 0 := by grind
    rw [Rat.mul_comm (z - x) (z - y), cancel3 h4 h3]
    grind
theorem wlog3 {P : Rat → Rat → Rat → Prop} (s1 : ∀ a b c, P b a c → P a b c) (s2 : ∀ a b c, P a c b → P a b c) (h : ∀ a b c, a ≤ b → b ≤ c → P a b c) (a b c : Rat) : P a b c := by
  rcases Rat.le_total (a := a) (b := b) with h1 | h1
  · rcases Rat.le_total (a := b) (b := c) with h2 | h2
    · exact h _ _ _ h1 h2
    · rcases Rat.le_total (a := a) (b := c) with h3 | h3
      · exact s2 _ _ _ (h _ _ _ h3 h2)
      · exact s2 _ _ _ (s1 _ _ _ (h _ _ _ h3 h1))
  · rcases Rat.le_total (a := a) (b := c) with h2 | h2
    · exact s1 _ _ _ (h _ _ _ h1 h2)
    · rcases Rat.le_total (a := b) (b := c) with h3 | h3
      · exact s1 _ _ _ (s2 _ _ _ (h _ _ _ h3 h2))
      · exact s1 _ _ _ (s2 _ _ _ (s1 _ _ _ (h _ _ _ h3 h1)))
/-- Milne's rule -/
def mil (lo hi : Rat) (f : Rat → Rat) : Rat := (hi - lo) * (2 * f (lo + 1 / 4 * (hi - lo)) + -1 * f (lo + 2 / 4 * (hi - lo)) + 2 * f (lo + 3 / 4 * (hi - lo))) / 3
theorem milne (lo hi : Rat) (h : lo < hi) : ∀ a b c : Rat, (a ≤ lo ∨ hi ≤ a) → (b ≤ lo ∨ hi ≤ b) → (c ≤ lo ∨ hi ≤ c) → mil lo hi (fun l => sh l a b c) = pr hi a b c - pr lo a b c := by
  refine wlog3 (fun a b c k ha hb hc => ?_) (fun a b c k ha hb hc => ?_) (fun a b c h1 h2 ha hb hc => ?_)
  · have := k hb ha hc
    rw [pr_swap1 hi a b c, pr_swap1 lo a b c] at this
    rw [← this]
    unfold mil
    simp only [sh_swap1]
  · have := k ha hc hb
    rw [pr_swap2 hi a b c, pr_swap2 lo a b c] at this
    rw [← this]
    unfold mil
    simp only [sh_swap2]
  have q1 : lo < lo + 1 / 4 * (hi - lo) ∧ lo + 1 / 4 * (hi - lo) < hi := by grind
  have q2 : lo < lo + 2 / 4 * (hi - lo) ∧ lo + 2 / 4 * (hi - lo) < hi := by grind
  have q3 : lo < lo + 3 / 4 * (hi - lo) ∧ lo + 3 / 4 * (hi - lo) < hi := by grind
  -- what is high between
  have hiT : ∀ {x m : Rat}, m < hi → hi ≤ x → m ≤ x := fun h1 h2 => by grind
  have hiF : ∀ {x m : Rat}, lo < m → x ≤ lo → ¬ m ≤ x := fun h1 h2 => by grind
  rcases ha with ha | ha
  · rcases hb with hb | hb
    · rcases hc with hc | hc
      · have sf : ∀ m, lo < m → sh m a b c = 0 := fun m hm => by
          unfold sh
          simp [hiF hm ha, hiF hm hb, hiF hm hc]
        unfold mil
        simp only [sf _ q1.1, sf _ q2.1, sf _ q3.1]
        have ph : pr hi a b c = (a + b + c) / 3 := by
          unfold pr
          simp [hiF h ha, hiF h hb, hiF h hc]
        have pl : pr lo a b c = (a + b + c) / 3 := by
          unfold pr
          by_cases e3 : lo ≤ c
          · have e3' : c = lo := Rat.le_antisymm hc e3
            by_cases e2 : lo ≤ b
            · have e2' : b = lo := Rat.le_antisymm hb e2
              by_cases e1 : lo ≤ a
              · have e1' : a = lo := Rat.le_antisymm ha e1
                simp [e1, e2, e3]
                grind
              · simp [e1, e2, e3]
                rw [e2', e3']
                have n1 : lo - a ≠ 0 := by grind
                rw [cancel3 n1 n1]
                have n2 : 3 * (lo - a) ≠ 0 := mul_ne (by decide) n1
                grind
            · have e1 : ¬ lo ≤ a := by grind
              simp [e1, e2, e3]
              rw [e3', Rat.sub_self]
              grind
          · have e2 : ¬ lo ≤ b := by grind
            have e1 : ¬ lo ≤ a := by grind
            simp [e1, e2, e3]
        rw [ph, pl]
        grind
      · have sf : ∀ m, lo < m → m < hi → sh m a b c = fr1 m c a b := fun m hm hm2 => by
          unfold sh
          simp [hiF hm ha, hiF hm hb, hiT hm2 hc]
        unfold mil
        simp only [sf _ q1.1 q1.2, sf _ q2.1 q2.2, sf _ q3.1 q3.2]
        have ph : pr hi a b c = (a + b + c) / 3 - (c - hi) * (c - hi) * (c - hi) / (3 * ((c - a) * (c - b))) := by
          unfold pr
          simp [hiF h ha, hiF h hb, hc]
        have e3 : lo ≤ c := by grind
        have pl : pr lo a b c = (a + b + c) / 3 - (c - lo) * (c - lo) * (c - lo) / (3 * ((c - a) * (c - b))) := by
          unfold pr
          by_cases e2 : lo ≤ b
          · have e2' : b = lo := Rat.le_antisymm hb e2
            by_cases e1 : lo ≤ a
            · have e1' : a = lo := Rat.le_antisymm ha e1
              simp [e1, e2, e3]
              rw [e1', e2']
              have n1 : c - lo ≠ 0 := by grind
              rw [cancel3 n1 n1]
              have n2 : 3 * (c - lo) ≠ 0 := mul_ne (by decide) n1
              grind
            · simp [e1, e2, e3]
              have := pr_mid (x := a) (y := lo) (z := c) (by grind) (by grind)
              rw [e2']
              exact this
          · have e1 : ¬ lo ≤ a := by grind
            simp [e1, e2, e3]
        rw [ph, pl]
        unfold fr1
        have n1 : c - a ≠ 0 := by grind
        have n2 : c - b ≠ 0 := by grind
        have n3 := mul_ne n1 n2
        have n4 : 3 * ((c - a) * (c - b)) ≠ 0 := mul_ne (by decide) n3
        generalize (c - a) * (c - b) = k at n3 n4
        grind
    · have hc : hi ≤ c := Rat.le_trans hb h2
      have sf : ∀ m, lo < m → m < hi → sh m a b c = fr2 m a b c := fun m hm hm2 => by
        unfold sh
        simp [hiF hm ha, hiT hm2 hb, hiT hm2 hc]
      unfold mil
      simp only [sf _ q1.1 q1.2, sf _ q2.1 q2.2, sf _ q3.1 q3.2]
      have ph : pr hi a b c = hi - (hi - a) * (hi - a) * (hi - a) / (3 * ((b - a) * (c - a))) := by
        unfold pr
        simp [hiF h ha, hb, hc]
      have e2 : lo ≤ b := by grind
      have e3 : lo ≤ c := by grind
      have pl : pr lo a b c = lo - (lo - a) * (lo - a) * (lo - a) / (3 * ((b - a) * (c - a))) := by
        unfold pr
        by_cases e1 : lo ≤ a
        · have e1' : a = lo := Rat.le_antisymm ha e1
          simp [e1, e2, e3]
          rw [e1', Rat.sub_self]
          grind
        · simp [e1, e2, e3]
      rw [ph, pl]
      unfold fr2
      have n1 : b - a ≠ 0 := by grind
      have n2 : c - a ≠ 0 := by grind
      have n3 := mul_ne n1 n2
      have n4 : 3 * ((b - a) * (c - a)) ≠ 0 := mul_ne (by decide) n3
      generalize (b - a) * (c - a) = k at n3 n4
      grind
  · have hb : hi ≤ b := Rat.le_trans ha h1
    have hc : hi ≤ c := Rat.le_trans hb h2
    have sf : ∀ m, m ≤ hi → sh m a b c = 1 ∧ pr m a b c = m := fun m hm => by
      have e1 : m ≤ a := Rat.le_trans hm ha
      have e2 : m ≤ b := Rat.le_trans hm hb
      have e3 : m ≤ c := Rat.le_trans hm hc
      unfold sh pr
      simp [e1, e2, e3]
    unfold mil
    have w1 := (sf _ (Rat.le_of_lt q1.2)).1
    have w2 := (sf _ (Rat.le_of_lt q2.2)).1
    have w3 := (sf _ (Rat.le_of_lt q3.2)).1
    have w4 := (sf hi (Rat.le_refl)).2
    have w5 := (sf lo (Rat.le_of_lt h)).2
    simp only [w1, w2, w3, w4, w5]
    grind
theorem pr_bot {l a b c : Rat} (h1 : l ≤ a) (h2 : l ≤ b) (h3 : l ≤ c) : pr l a b c = l := by
  unfold pr
  simp [h1, h2, h3]
theorem pr_top (l : Rat) : ∀ a b c : Rat, a ≤ l → b ≤ l → c ≤ l → pr l a b c = (a + b + c) / 3 := by
  refine wlog3 (fun a b c k ha hb hc => ?_) (fun a b c k ha hb hc => ?_) (fun a b c h1 h2 ha hb hc => ?_)
  · have := k hb ha hc
    rw [pr_swap1 l a b c] at this
    rw [this]
    grind
  · have := k ha hc hb
    rw [pr_swap2 l a b c] at this
    rw [this]
    grind
  unfold pr
  by_cases e3 : l ≤ c
  · have e3' : c = l := Rat.le_antisymm hc e3
    by_cases e2 : l ≤ b
    · have e2' : b = l := Rat.le_antisymm hb e2
      by_cases e1 : l ≤ a
      · have e1' : a = l := Rat.le_antisymm ha e1
        simp [e1, e2, e3]
        grind
      · simp [e1, e2, e3]
        rw [e2', e3']
        have n1 : l - a ≠ 0 := by grind
        rw [cancel3 n1 n1]
        have n2 : 3 * (l - a) ≠ 0 := mul_ne (by decide) n1
        grind
    · have e1 : ¬ l ≤ a := by grind
      simp [e1, e2, e3]
      rw [e3', Rat.sub_self]
      grind
  · have e2 : ¬ l ≤ b := by grind
    have e1 : ¬ l ≤ a := by grind
    simp [e1, e2, e3]

/-! polygons -/
structure Pt where
  x : Rat
  y : Rat
def crs (a b c : Pt) : Rat := (b.x - a.x) * (c.y - a.y) - (b.y - a.y) * (c.x - a.x)
/-- a point on the way -/
def mov (a b : Pt) (p : Rat) : Pt := ⟨a.x + p * (b.x - a.x), a.y + p * (b.y - a.y)⟩
/-- the point of a gate -/
def gat (l : Rat) (h : Pt) (fh : Rat) (w : Pt) (fw : Rat) : Pt := mov w h ((l - fw) / (fh - fw))
theorem part1 {l h w v : Rat} (h1 : h - w ≠ 0) (h2 : h - v ≠ 0) : (1 - (l - w) / (h - w)) * (1 - (l - v) / (h - v)) = fr1 l h w v := by
  unfold fr1
  have n := mul_ne h1 h2
  grind
theorem part2 {l w h k : Rat} (h1 : h - w ≠ 0) (h2 : k - w ≠ 0) : 1 - ((l - w) / (h - w)) * ((l - w) / (k - w)) = fr2 l w h k := by
  unfold fr2
  have n := mul_ne h1 h2
  grind
theorem one_a (a b c : Pt) (p q : Rat) : crs a (mov b a p) (mov c a q) = crs a b c * ((1 - p) * (1 - q)) := by
  simp only [crs, mov]
  grind
theorem one_b (a b c : Pt) (p q : Rat) : crs (mov a b p) b (mov c b q) = crs a b c * ((1 - p) * (1 - q)) := by
  simp only [crs, mov]
  grind
theorem one_c (a b c : Pt) (p q : Rat) : crs (mov b c p) c (mov a c q) = crs a b c * ((1 - p) * (1 - q)) := by
  simp only [crs, mov]
  grind
/-- a, b high -/
theorem two_c (a b c : Pt) (p q : Rat) : crs a b (mov c b p) + crs a (mov c b p) (mov c a q) = crs a b c * (1 - p * q) := by
  simp only [crs, mov]
  grind
/-- a, c high -/
theorem two_b (a b c : Pt) (p q : Rat) : crs a (mov b a p) (mov b c q) + crs a (mov b c q) c = crs a b c * (1 - p * q) := by
  simp only [crs, mov]
  grind
/-- b, c high -/
theorem two_a (a b c : Pt) (p q : Rat) : crs (mov a b p) b c + crs (mov a b p) c (mov a c q) = crs a b c * (1 - p * q) := by
  simp only [crs, mov]
  grind
theorem crs_rot (a b c : Pt) : crs b c a = crs a b c := by
  simp only [crs]
  grind
/-- the corners of what is high, as the program lists them -/
def cor (l : Rat) (a b c : Pt) (fa fb fc : Rat) : List Pt :=
  if l ≤ fa then (if l ≤ fb then (if l ≤ fc then [a, b, c] else [a, b, gat l b fb c fc, gat l a fa c fc]) else (if l ≤ fc then [a, gat l a fa b fb, gat l c fc b fb, c] else [a, gat l a fa b fb, gat l a fa c fc]))
  else (if l ≤ fb then (if l ≤ fc then [gat l b fb a fa, b, c, gat l c fc a fa] else [gat l b fb a fa, b, gat l b fb c fc]) else (if l ≤ fc then [gat l c fc b fb, c, gat l c fc a fa] else []))
def fan : List Pt → Rat
  | [a, b, c] => 0 + crs a b c
  | [a, b, c, d] => 0 + crs a b c + crs a c d
  | _ => 0
theorem fan_cor (l : Rat) (a b c : Pt) (fa fb fc : Rat) : fan (cor l a b c fa fb fc) = crs a b c * sh l fa fb fc := by
  have ne : ∀ {x y : Rat}, l ≤ x → ¬ l ≤ y → x - y ≠ 0 := fun h1 h2 => by grind
  unfold cor sh
  by_cases h1 : l ≤ fa <;> by_cases h2 : l ≤ fb <;> by_cases h3 : l ≤ fc <;> simp only [h1, h2, h3, if_true, if_false, fan, gat, Rat.zero_add]
  · rw [Rat.mul_one]
  · rw [two_c, ← part2 (ne h1 h3) (ne h2 h3), Rat.mul_comm ((l - fc) / (fb - fc))]
  · rw [two_b, ← part2 (ne h1 h2) (ne h3 h2)]
  · rw [one_a, ← part1 (ne h1 h2) (ne h1 h3)]
  · rw [two_a, ← part2 (ne h2 h1) (ne h3 h1)]
  · rw [one_b, ← part1 (ne h2 h1) (ne h2 h3)]
  · rw [one_c, ← part1 (ne h3 h1) (ne h3 h2), Rat.mul_comm (1 - (l - fb) / (fc - fb))]
  · rw [Rat.mul_zero]
end PL
end
section
set_option Elab.async false
set_option linter.all false
set_option maxRecDepth 10000
/-! PR: the text of plain data. -/
namespace PL
open PySem L2 PyProof.Rows
theorem ok_of (s : String) : PyData.strOk (Str.ofString s) = true := by
  rw [Str.ofString_eq_toList]
  unfold PyData.strOk
  rw [List.all_toArray]
  refine List.all_eq_true.mpr fun c hc => ?_
  obtain ⟨d, _, rfl⟩ := List.mem_map.mp hc
  have := d.valid
  have h2 : d.toNat < 0x110000 := by
    have hv : d.val.toNat.isValidChar := d.valid
    unfold Nat.isValidChar at hv
    show d.val.toNat < 0x110000
    omega
  exact decide_eq_true h2
theorem ok_app {x y : Str} (hx : PyData.strOk x = true) (hy : PyData.strOk y = true) : PyData.strOk (x ++ y) = true := by
  unfold PyData.strOk at *
  rw [Str.cps_append, Array.all_append, hx, hy]
  rfl
theorem ok_join {sep : Str} (hs : PyData.strOk sep = true) : ∀ {l : List Str}, (∀ x ∈ l, PyData.strOk x = true) → PyData.strOk (Str.join sep l) = true
  | [], _ => show PyData.strOk Str.empty = true by simp [PyData.strOk, Str.empty]
  | [x], h => h x (by simp)
  | x :: y :: l, h => ok_app (ok_app (h x (by simp)) hs) (ok_join hs (l := y :: l) fun z hz => h z (by simp at hz ⊢; exact .inr hz))
structure Sh (n m : Nat) (d : D) : Prop where
  pl : Pl n d
  sh : (encD d).showable = true
  len : (encD d).shown.length ≤ m
  ok : PyData.strOk (encD d).shown = true
theorem showAll_of {ps : List PyData} (h : ∀ p ∈ ps, p.showable = true) : PyData.showableAll ps = true := by
  induction ps with
  | nil => simp [PyData.showableAll]
  | cons p ps ih =>
    simp only [PyData.showableAll, Bool.and_eq_true]
    exact ⟨h p (by simp), ih fun q hq => h q (by simp [hq])⟩
theorem shownAll_map (ps : List PyData) : PyData.shownAll ps = ps.map PyData.shown := by
  induction ps with
  | nil => simp [PyData.shownAll]
  | cons p ps ih => simp [PyData.shownAll, ih]
theorem piled_le {ts : List Str} {m : Nat} (h : ∀ t ∈ ts, t.length ≤ m) : piled ts ≤ (m + 2) * ts.length := by
  induction ts with
  | nil => simp [piled]
  | cons t ts ih =>
    rw [piled_cons, List.length_cons, Nat.mul_add]
    have h1 := h t (by simp)
    have h2 := ih fun u hu => h u (by simp [hu])
    omega
theorem tupText_le {ts : List Str} {m : Nat} (h : ∀ t ∈ ts, t.length ≤ m) : (tupleText ts).length ≤ (m + 2) * ts.length + 3 := by
  unfold tupleText
  rw [strLen_append, strLen_append]
  have e1 : ((("(" : String) : Str)).length = 1 := rfl
  have e3 : (((if ts.length == 1 then ",)" else ")" : String) : Str)).length ≤ 2 := by split <;> decide
  rw [e1]
  by_cases h0 : ts = []
  · subst h0
    show 1 + 0 + _ ≤ _
    omega
  · have := join_length_add ts h0
    have := piled_le h
    omega
theorem Sh.int {i : Int} (h : i.natAbs < 2 ^ 1920) : Sh 0 1921 (.int i) := by
  have hl : i.natAbs.log2 < 1920 := by
    by_cases z : i.natAbs = 0
    · rw [z]; decide
    · exact (Nat.log2_lt z).mpr h
  refine ⟨.int 0 i, ?_, ?_, ?_⟩
  · show PyData.showable (.int i) = true
    simp only [PyData.showable]
    exact decide_eq_true hl
  · show (PyData.shown (.int i)).length ≤ _
    simp only [PyData.shown]
    have e := int_text_length_le (k := 1920) (by decide) hl
    rw [PySem.ofString_length]
    exact e
  · show PyData.strOk (PyData.shown (.int i)) = true
    simp only [PyData.shown]
    exact ok_of _
theorem Sh.mono {n m n' m' : Nat} {d : D} (h : Sh n m d) (h1 : n ≤ n') (h2 : m ≤ m') : Sh n' m' d := ⟨h.pl.mono h1, h.sh, Nat.le_trans h.len h2, h.ok⟩
theorem Sh.tup {n m c : Nat} (k : Bool) {l : List D} (h : ∀ d ∈ l, Sh n m d) (hc : l.length ≤ c) : Sh (n + 1) ((m + 2) * c + 3) (.tup k l) := by
  have e := Pl.enc_tup (k := k) (fun d hd => (h d hd).pl)
  refine ⟨.tup k fun d hd => (h d hd).pl, ?_, ?_, ?_⟩
  · rw [e]
    simp only [PyData.showable]
    refine showAll_of fun p hp => ?_
    obtain ⟨d, hd, rfl⟩ := List.mem_map.mp hp
    exact (h d hd).sh
  · rw [e]
    simp only [PyData.shown]
    rw [shownAll_map]
    refine Nat.le_trans (tupText_le (m := m) fun t ht => ?_) ?_
    · obtain ⟨p, hp, rfl⟩ := List.mem_map.mp ht
      obtain ⟨d, hd, rfl⟩ := List.mem_map.mp hp
      exact (h d hd).len
    · rw [List.length_map, List.length_map]
      have := Nat.mul_le_mul_left (m + 2) hc
      omega
  · rw [e]
    simp only [PyData.shown]
    rw [shownAll_map]
    unfold tupleText
    refine ok_app (ok_app (ok_of _) (ok_join (ok_of _) fun x hx => ?_)) (ok_of _)
    obtain ⟨p, hp, rfl⟩ := List.mem_map.mp hx
    obtain ⟨d, hd, rfl⟩ := List.mem_map.mp hp
    exact (h d hd).ok
theorem reprO_ok {n m : Nat} {d : D} (h : Sh n m d) (hn : n ≤ 60) (hm : m ≤ 2 ^ 24) (hs : isSeqD d = true) : reprO d = some (.str (encD d).shown) := by
  unfold reprO
  rw [if_pos hs, h.pl.py.1, Option.bind_some, if_pos]
  unfold reprOk
  have h1 := PyData.hasDict_of_canLay _ h.pl.py.2.1
  have h2 := h.pl.py.2.2
  have h3 := h.len
  rw [h.sh, h1, decide_eq_true (by omega), decide_eq_true (show (encD d).shown.length ≤ sizeLine from Nat.le_trans h3 hm)]
  rfl
theorem Sh.fr {q : Rat} {n d : Nat} (k : Bool) (h : Fz n d q) (hn : n < 1920) (hd : d < 1920) : Sh 1 10000 (frD k q) := by
  have a := Sh.int (i := q.num) (Nat.lt_of_le_of_lt h.1 (Nat.pow_lt_pow_right (by decide) hn))
  have b := Sh.int (i := (q.den : Int)) (by rw [Int.natAbs_natCast]; exact Nat.lt_of_le_of_lt h.2 (Nat.pow_lt_pow_right (by decide) hd))
  exact (Sh.tup k (l := [.int q.num, .int (q.den : Int)]) (c := 2) (fun d hd => by
    simp only [List.mem_cons, List.not_mem_nil, or_false] at hd
    rcases hd with rfl | rfl
    · exact a
    · exact b) (by simp)).mono (by omega) (by omega)
theorem repr_fr {q : Rat} {n d : Nat} (k : Bool) (h : Fz n d q) (hn : n < 1920) (hd : d < 1920) : reprO (frD k q) = some (.str (PyData.tuple [.int q.num, .int (q.den : Int)]).shown) := by
  rw [reprO_ok (Sh.fr k h hn hd) (by omega) (by decide) rfl, enc_fr]
theorem shaped_str {x : Str} (h : PyData.strOk x = true) : SeqAt.shaped (.str x) = true := by
  show ((PyData.str x).canLay0 && decide ((PyData.str x).depth ≤ 64)) = true
  simp [PyData.canLay0, PyData.depth, h]
theorem eqD_str {x y : Str} (hx : PyData.strOk x = true) (hy : PyData.strOk y = true) : eqD (.str x) (.str y) = pure (.bl (x == y)) := by
  unfold eqD eqB
  simp only [toPy, shaped_str hx, shaped_str hy, Bool.and_self, if_true, pure_bind', PyData.eqv]
theorem neD_str {x y : Str} (hx : PyData.strOk x = true) (hy : PyData.strOk y = true) : neD (.str x) (.str y) = pure (.bl (!(x == y))) := by
  unfold neD eqB
  simp only [toPy, shaped_str hx, shaped_str hy, Bool.and_self, if_true, pure_bind', PyData.eqv]
/-- the text of q -/
def txQ (q : Rat) : Str := (PyData.tuple [.int q.num, .int (q.den : Int)]).shown
theorem txQ_ok {q : Rat} {n d : Nat} (h : Fz n d q) (hn : n < 1920) (hd : d < 1920) : PyData.strOk (txQ q) = true := by
  have := (Sh.fr false h hn hd).ok
  rw [enc_fr] at this
  exact this
theorem repr_q {q : Rat} {n d : Nat} (k : Bool) (h : Fz n d q) (hn : n < 1920) (hd : d < 1920) : reprO (frD k q) = some (.str (txQ q)) := repr_fr k h hn hd
end PL
end
section
set_option Elab.async false
set_option linter.all false
set_option maxRecDepth 10000
set_option pp.maxSteps 3000
/-! Q1: pairs of numbers sorted; lots of numbers that hang together. -/
namespace LF
open PL
def pD (p : Nat × Nat) : D := .tup false [.int p.1, .int p.2]
def toI (p : Nat × Nat) : Int × Int := ((p.1 : Int), (p.2 : Int))
theorem pairD_toI (p : Nat × Nat) : pairD (toI p) = pD p := rfl
theorem toI_inj {p q : Nat × Nat} (h : toI p = toI q) : p = q := by
  obtain ⟨a, b⟩ := p
  obtain ⟨c, d⟩ := q
  simp only [toI, Prod.mk.injEq] at h
  rw [show a = c by omega, show b = d by omega]
def leP (p q : Nat × Nat) : Bool := decide (p.1 < q.1 ∨ (p.1 = q.1 ∧ p.2 ≤ q.2))
def sortP (l : List (Nat × Nat)) : List (Nat × Nat) := l.mergeSort leP
theorem leP_trans (a b c : Nat × Nat) (h1 : leP a b = true) (h2 : leP b c = true) : leP a c = true := by
  unfold leP at *
  simp only [decide_eq_true_eq] at *
  omega
theorem leP_total (a b : Nat × Nat) : (leP a b || leP b a) = true := by
  unfold leP
  simp only [Bool.or_eq_true, decide_eq_true_eq]
  omega
theorem sortP_perm (l : List (Nat × Nat)) : (sortP l).Perm l := List.mergeSort_perm _ _
theorem sortP_mem {l : List (Nat × Nat)} {p : Nat × Nat} : p ∈ sortP l ↔ p ∈ l := (sortP_perm l).mem_iff
theorem sortP_sorted (l : List (Nat × Nat)) : (sortP l).Pairwise (fun a b => leP a b = true) := List.pairwise_mergeSort leP_trans leP_total l
theorem encD_pD (p : Nat × Nat) : encD (pD p) = .tuple [.int (p.1 : Int), .int (p.2 : Int)] := enc_ints false [(p.1 : Int), (p.2 : Int)]
theorem sortL_pairs (l : List (Nat × Nat)) : sortL (l.map pD) = (sortP l).map pD := by
  unfold sortL sortP
  refine (List.map_mergeSort fun a _ b _ => ?_).symm
  have e : PySem.W.dataLe false encD (pD a) (pD b) = PySem.W.dataLe false (fun p : Nat × Nat => PySem.PyData.tuple [.int (p.1 : Int), .int (p.2 : Int)]) a b := by
    rw [PySem.W.dataLe_eq, PySem.W.dataLe_eq]
    simp only [encD_pD]
  rw [e, PySem.W.dataLe_ii]
  unfold leP
  refine decide_eq_decide.mpr ?_
  omega
theorem sortL_nats (l : List Nat) : sortL (l.map fun n : Nat => D.int (n : Int)) = (l.mergeSort (fun a b => decide (a ≤ b))).map fun n : Nat => D.int (n : Int) := by
  unfold sortL
  refine (List.map_mergeSort fun a _ b _ => ?_).symm
  have e : PySem.W.dataLe false encD (D.int (a : Int)) (D.int (b : Int)) = PySem.W.dataLe false (fun n : Nat => PySem.PyData.int (n : Int)) a b := by
    rw [PySem.W.dataLe_eq, PySem.W.dataLe_eq]
    rfl
  rw [e, PySem.W.dataLe_int]
  refine decide_eq_decide.mpr ?_
  omega
/-- two ascending lists of the same numbers are one -/
theorem asc_uniq {l m : List Nat} (hl : l.Pairwise (· < ·)) (hm : m.Pairwise (· < ·)) (h : ∀ x, x ∈ l ↔ x ∈ m) : l = m := by
  induction l generalizing m with
  | nil =>
    cases m with
    | nil => rfl
    | cons b m => exact absurd ((h b).mpr (by simp)) (by simp)
  | cons a l ih =>
    cases m with
    | nil => exact absurd ((h a).mp (by simp)) (by simp)
    | cons b m =>
      rw [List.pairwise_cons] at hl hm
      have e : a = b := by
        rcases List.mem_cons.mp ((h a).mp (by simp)) with e | e
        · exact e
        · rcases List.mem_cons.mp ((h b).mpr (by simp)) with e2 | e2
          · exact e2.symm
          · have := hm.1 a e
            have := hl.1 b e2
            omega
      subst e
      congr 1
      refine ih hl.2 hm.2 fun x => ?_
      constructor
      · intro hx
        rcases List.mem_cons.mp ((h x).mp (by simp [hx])) with e | e
        · have := hl.1 x hx
          omega
        · exact e
      · intro hx
        rcases List.mem_cons.mp ((h x).mpr (by simp [hx])) with e | e
        · have := hm.1 x hx
          omega
        · exact e
theorem sort_nodup {l : List Nat} (h : l.Nodup) : (l.mergeSort fun a b => decide (a ≤ b)).Pairwise (· < ·) := by
  have s : (l.mergeSort fun a b => decide (a ≤ b)).Pairwise (fun a b => decide (a ≤ b) = true) := List.pairwise_mergeSort (fun a b c h1 h2 => by simp only [decide_eq_true_eq] at *; omega) (fun a b => by simp only [Bool.or_eq_true, decide_eq_true_eq]; omega) l
  have n : (l.mergeSort fun a b => decide (a ≤ b)).Nodup := (List.mergeSort_perm _ _).nodup_iff.mpr h
  refine (s.and n).imp fun {a b} h => ?_
  have := h.1
  simp only [decide_eq_true_eq] at this
  exact Nat.lt_of_le_of_ne this h.2
theorem sort_to {l m : List Nat} (h : l.Nodup) (hm : m.Pairwise (· < ·)) (e : ∀ x, x ∈ l ↔ x ∈ m) : (l.mergeSort fun a b => decide (a ≤ b)) = m :=
  asc_uniq (sort_nodup h) hm fun x => by rw [(List.mergeSort_perm _ _).mem_iff]; exact e x
/-- the two ways to sort pairs -/
theorem sortU_eq {l : List (Nat × Nat)} {m : List (Int × Int)} (nd : l.Nodup) (hs : ∀ p ∈ l, p.1 < 64 ∧ p.2 < 64) (e : ∀ p, p ∈ m ↔ ∃ q ∈ l, p = toI q) : sortU m = (sortP l).map toI := by
  have sm : ∀ p ∈ m, Small p := fun p hp => by
    obtain ⟨q, hq, rfl⟩ := (e p).mp hp
    have := hs q hq
    unfold Small toI
    simp only
    omega
  have S := sortU_spec sm
  refine sorted_uniq S.2 ?_ fun x => ?_
  · refine List.pairwise_map.mpr ?_
    have n : (sortP l).Nodup := (sortP_perm l).nodup_iff.mpr nd
    refine List.Pairwise.imp_of_mem (fun {a b} ha hb h => ?_) ((sortP_sorted l).and n)
    have h1 := h.1
    have h2 := hs a (sortP_mem.mp ha)
    have h3 := hs b (sortP_mem.mp hb)
    have h4 : a ≠ b := h.2
    have h5 : ¬ (a.1 = b.1 ∧ a.2 = b.2) := fun z => h4 (Prod.ext z.1 z.2)
    unfold leP at h1
    simp only [decide_eq_true_eq] at h1
    unfold codeP toI
    simp only
    omega
  · rw [S.1, e, List.mem_map]
    constructor
    · rintro ⟨q, hq, rfl⟩; exact ⟨q, sortP_mem.mpr hq, rfl⟩
    · rintro ⟨q, hq, rfl⟩; exact ⟨q, sortP_mem.mp hq, rfl⟩

/-! ### lots -/
inductive Con (ps : List (Nat × Nat)) (a : Nat) : Nat → Prop
  | refl : Con ps a a
  | step {b c : Nat} : Con ps a b → ((b, c) ∈ ps ∨ (c, b) ∈ ps) → Con ps a c
theorem Con.trans {ps : List (Nat × Nat)} {a b c : Nat} (h : Con ps a b) (k : Con ps b c) : Con ps a c := by
  induction k with
  | refl => exact h
  | step _ e ih => exact .step ih e
theorem Con.one {ps : List (Nat × Nat)} {a b : Nat} (h : (a, b) ∈ ps ∨ (b, a) ∈ ps) : Con ps a b := .step .refl h
theorem Con.symm {ps : List (Nat × Nat)} {a b : Nat} (h : Con ps a b) : Con ps b a := by
  induction h with
  | refl => exact .refl
  | step _ e ih => exact (Con.one e.symm).trans ih
theorem Con.mono {ps qs : List (Nat × Nat)} (le : ∀ p ∈ ps, p ∈ qs) {a b : Nat} (h : Con ps a b) : Con qs a b := by
  induction h with
  | refl => exact .refl
  | step _ e ih => exact .step ih (e.imp (le _) (le _))
def atN (l : List Nat) (i : Nat) : Nat := l.getD i 0
def relab (lab : List Nat) (p : Nat × Nat) : List Nat := lab.map fun f => if f = max (atN lab p.1) (atN lab p.2) then min (atN lab p.1) (atN lab p.2) else f
def labs (n : Nat) (ps : List (Nat × Nat)) : List Nat := ps.foldl relab (List.range n)
structure LabOk (n : Nat) (ps : List (Nat × Nat)) (lab : List Nat) : Prop where
  len : lab.length = n
  le : ∀ i, i < n → atN lab i ≤ i
  eq : ∀ p ∈ ps, atN lab p.1 = atN lab p.2
  con : ∀ i, i < n → Con ps i (atN lab i)
theorem getD_lt {l : List Nat} {i : Nat} (h : i < l.length) : atN l i = l[i] := by
  unfold atN
  rw [List.getD_eq_getElem?_getD, List.getElem?_eq_getElem h]
  rfl
theorem relab_at {lab : List Nat} {p : Nat × Nat} {i : Nat} (h : i < lab.length) : atN (relab lab p) i = if atN lab i = max (atN lab p.1) (atN lab p.2) then min (atN lab p.1) (atN lab p.2) else atN lab i := by
  unfold relab
  rw [getD_lt (by simpa using h), getD_lt h, List.getElem_map]
theorem LabOk.next {n : Nat} {ps : List (Nat × Nat)} {lab : List Nat} (L : LabOk n ps lab) (hp : ∀ q ∈ ps, q.1 < n ∧ q.2 < n) {p : Nat × Nat} (h1 : p.1 < n) (h2 : p.2 < n) : LabOk n (ps ++ [p]) (relab lab p) := by
  have at_ : ∀ i, i < n → atN (relab lab p) i = if atN lab i = max (atN lab p.1) (atN lab p.2) then min (atN lab p.1) (atN lab p.2) else atN lab i := fun i hi => relab_at (by rw [L.len]; exact hi)
  have old : ∀ {a b}, Con ps a b → Con (ps ++ [p]) a b := fun h => h.mono fun q hq => List.mem_append_left _ hq
  refine ⟨by unfold relab; rw [List.length_map]; exact L.len, fun i hi => ?_, fun q hq => ?_, fun i hi => ?_⟩
  · rw [at_ i hi]
    have := L.le i hi
    split <;> omega
  · rcases List.mem_append.mp hq with hq | hq
    · rw [at_ _ (hp q hq).1, at_ _ (hp q hq).2, L.eq q hq]
    · rw [List.mem_singleton.mp hq, at_ _ h1, at_ _ h2]
      split <;> split <;> omega
  · rw [at_ i hi]
    split
    · rename_i e
      have c1 : Con (ps ++ [p]) p.1 (atN lab p.1) := old (L.con _ h1)
      have c2 : Con (ps ++ [p]) p.2 (atN lab p.2) := old (L.con _ h2)
      have c3 : Con (ps ++ [p]) p.1 p.2 := .one (.inl (List.mem_append_right _ (List.mem_singleton.mpr rfl)))
      have c0 : Con (ps ++ [p]) i (atN lab i) := old (L.con i hi)
      have c12 : Con (ps ++ [p]) (atN lab p.1) (atN lab p.2) := (c1.symm.trans c3).trans c2
      rw [e] at c0
      rcases Nat.le_total (atN lab p.1) (atN lab p.2) with c | c
      · rw [Nat.max_eq_right c] at c0
        rw [Nat.min_eq_left c]
        exact c0.trans c12.symm
      · rw [Nat.max_eq_left c] at c0
        rw [Nat.min_eq_right c]
        exact c0.trans c12
    · exact old (L.con i hi)
theorem labs_ok {n : Nat} : ∀ (ps done : List (Nat × Nat)) (lab : List Nat), (∀ q ∈ done ++ ps, q.1 < n ∧ q.2 < n) → LabOk n done lab → LabOk n (done ++ ps) (ps.foldl relab lab)
  | [], done, lab, _, L => by simpa using L
  | p :: ps, done, lab, h, L => by
    have := labs_ok ps (done ++ [p]) (relab lab p) (by simpa using h) (L.next (fun q hq => h q (by simp [hq])) (h p (by simp)).1 (h p (by simp)).2)
    simpa using this
theorem labsOk {n : Nat} {ps : List (Nat × Nat)} (h : ∀ q ∈ ps, q.1 < n ∧ q.2 < n) : LabOk n ps (labs n ps) := by
  have L0 : LabOk n [] (List.range n) := by
    have e : ∀ i, i < n → atN (List.range n) i = i := fun i hi => by rw [getD_lt (by simpa using hi)]; simp
    exact ⟨by simp, fun i hi => by rw [e i hi]; exact Nat.le_refl _, fun q hq => by simp at hq, fun i hi => by rw [e i hi]; exact .refl⟩
  have := labs_ok ps [] (List.range n) (by simpa using h) L0
  rw [List.nil_append] at this
  exact this
section
variable {n : Nat} {ps : List (Nat × Nat)} {lab : List Nat}
theorem LabOk.same (L : LabOk n ps lab) {a b : Nat} (h : Con ps a b) : atN lab a = atN lab b := by
  induction h with
  | refl => rfl
  | step _ e ih =>
    rw [ih]
    rcases e with e | e
    · exact L.eq _ e
    · exact (L.eq _ e).symm
theorem LabOk.idem (L : LabOk n ps lab) {i : Nat} (h : i < n) : atN lab (atN lab i) = atN lab i := (L.same (L.con i h)).symm
theorem LabOk.iff (L : LabOk n ps lab) {i j : Nat} (hi : i < n) (hj : j < n) : atN lab i = atN lab j ↔ Con ps i j :=
  ⟨fun e => (L.con i hi).trans (by rw [e]; exact (L.con j hj).symm), fun h => L.same h⟩
end
/-- the numbers with the label f -/
def lotOf (n : Nat) (lab : List Nat) (f : Nat) : List Nat := (List.range n).filter fun j => decide (atN lab j = f)
def lotsTo (n : Nat) (lab : List Nat) (i : Nat) : List (List Nat) := (List.range i).filterMap fun f => if atN lab f = f then some (lotOf n lab f) else none
def lotsOf (n : Nat) (lab : List Nat) : List (List Nat) := lotsTo n lab n
theorem lotsTo_len (n : Nat) (lab : List Nat) (i : Nat) : (lotsTo n lab i).length ≤ i := Nat.le_trans (List.length_filterMap_le _ _) (by simp)
theorem lotsTo_yes {n : Nat} {lab : List Nat} {i : Nat} (h : atN lab i = i) : lotsTo n lab (i + 1) = lotsTo n lab i ++ [lotOf n lab i] := by
  unfold lotsTo
  rw [List.range_succ, List.filterMap_append]
  congr 1
  simp [h]
theorem lotsTo_no {n : Nat} {lab : List Nat} {i : Nat} (h : ¬ atN lab i = i) : lotsTo n lab (i + 1) = lotsTo n lab i := by
  unfold lotsTo
  rw [List.range_succ, List.filterMap_append]
  simp [h]
theorem lotsTo_zero {n : Nat} {lab : List Nat} : lotsTo n lab 0 = [] := rfl
def natsD (l : List Nat) : D := .tup false (l.map fun n : Nat => D.int (n : Int))
def lotsD (n : Nat) (lab : List Nat) : D := .tup false ((lotsOf n lab).map natsD)
theorem lotOf_asc (n : Nat) (lab : List Nat) (f : Nat) : (lotOf n lab f).Pairwise (· < ·) := List.Pairwise.filter _ List.pairwise_lt_range
theorem lotOf_mem {n : Nat} {lab : List Nat} {f j : Nat} : j ∈ lotOf n lab f ↔ j < n ∧ atN lab j = f := by
  unfold lotOf
  rw [List.mem_filter, List.mem_range, decide_eq_true_eq]
end LF
end
section
set_option Elab.async false
set_option linter.all false
set_option maxRecDepth 10000
namespace LF
open PL Rat
theorem F_fraction_ok {t b : Int} (hb : b ≠ 0) {n : Nat} (hn : b.natAbs < 2 ^ n) (h : n < 9000) : F_fraction [.int t, .int b] = pure (frD false (t /. b)) := by
  have hg : ∀ t : Int, divOk ((Nat.gcd t.natAbs b.natAbs : Nat) : Int) = true := fun t => by
    have hp : 0 < b.natAbs := by omega
    have h1 : Nat.gcd t.natAbs b.natAbs ≤ b.natAbs := Nat.gcd_le_right _ hp
    have h2 : 0 < Nat.gcd t.natAbs b.natAbs := Nat.gcd_pos_of_pos_right _ hp
    exact divOk_lt (n := n) (by omega) (by omega) h
  unfold F_fraction runF n_fraction
  by_cases h2 : b < 0
  · have e1 : t.natAbs = (-t).natAbs := by omega
    have e2 : b.natAbs = (-b).natAbs := by omega
    have hg2 := hg (-t)
    rw [e2] at hg2
    have p := div_num (t := -t) (b := -b) (by omega)
    have q := div_den (t := -t) (b := -b) (by omega)
    rw [neg_neg_div] at p q
    simp only [Int.natAbs_neg] at p q hg2
    simp [fdivD_int hg2, mkTup_ok, hb, h2, frD, p, q]
  · have p := div_num (t := t) (b := b) (by omega)
    have q := div_den (t := t) (b := b) (by omega)
    simp [fdivD_int (hg t), mkTup_ok, hb, h2, frD, p, q]
theorem F_plus_ok {d1 d2 : D} {a b : Rat} {m e m' e' : Nat} (h1 : isFr d1 a) (h2 : isFr d2 b) (s1 : Fz m e a) (s2 : Fz m' e' b) (h : m + e + m' + e' < 8900) : F_plus [d1, d2] = pure (frD false (a + b)) := by
  obtain ⟨k1, rfl⟩ := h1
  obtain ⟨k2, rfl⟩ := h2
  have e1 := mulOk_le (i := a.num) (j := (b.den : Int)) s1.1 (by simpa using s2.2) (by omega)
  have e2 := mulOk_le (i := b.num) (j := (a.den : Int)) s2.1 (by simpa using s1.2) (by omega)
  have e3 := mulOk_le (i := (a.den : Int)) (j := (b.den : Int)) (by simpa using s1.2) (by simpa using s2.2) (by omega)
  have p3 := Nat.mul_le_mul s1.2 s2.2
  rw [pw] at p3
  have ef := F_fraction_ok (t := a.num * b.den + b.num * a.den) (b := (a.den : Int) * b.den) (Int.mul_ne_zero (den_ne a) (den_ne b)) (n := e + e' + 1) (by rw [Int.natAbs_mul, Int.natAbs_natCast, Int.natAbs_natCast]; exact Nat.lt_of_le_of_lt p3 (Nat.pow_lt_pow_right (by decide) (by omega))) (by omega)
  rw [← add_di] at ef
  unfold F_plus runF n_plus
  simp [frD, mulD_int e1, mulD_int e2, mulD_int e3, ef]
theorem F_minus_ok {d1 d2 : D} {a b : Rat} {m e m' e' : Nat} (h1 : isFr d1 a) (h2 : isFr d2 b) (s1 : Fz m e a) (s2 : Fz m' e' b) (h : m + e + m' + e' < 8900) : F_minus [d1, d2] = pure (frD false (a - b)) := by
  obtain ⟨k1, rfl⟩ := h1
  obtain ⟨k2, rfl⟩ := h2
  have e1 := mulOk_le (i := a.num) (j := (b.den : Int)) s1.1 (by simpa using s2.2) (by omega)
  have e2 := mulOk_le (i := b.num) (j := (a.den : Int)) s2.1 (by simpa using s1.2) (by omega)
  have e3 := mulOk_le (i := (a.den : Int)) (j := (b.den : Int)) (by simpa using s1.2) (by simpa using s2.2) (by omega)
  have p3 := Nat.mul_le_mul s1.2 s2.2
  rw [pw] at p3
  have ef := F_fraction_ok (t := a.num * b.den - b.num * a.den) (b := (a.den : Int) * b.den) (Int.mul_ne_zero (den_ne a) (den_ne b)) (n := e + e' + 1) (by rw [Int.natAbs_mul, Int.natAbs_natCast, Int.natAbs_natCast]; exact Nat.lt_of_le_of_lt p3 (Nat.pow_lt_pow_right (by decide) (by omega))) (by omega)
  rw [← sub_di] at ef
  unfold F_minus runF n_minus
  simp [frD, mulD_int e1, mulD_int e2, mulD_int e3, ef]
theorem F_times_ok {d1 d2 : D} {a b : Rat} {m e m' e' : Nat} (h1 : isFr d1 a) (h2 : isFr d2 b) (s1 : Fz m e a) (s2 : Fz m' e' b) (h : m + e + m' + e' < 8900) : F_times [d1, d2] = pure (frD false (a * b)) := by
  obtain ⟨k1, rfl⟩ := h1
  obtain ⟨k2, rfl⟩ := h2
  have e1 := mulOk_le (i := a.num) (j := b.num) s1.1 s2.1 (by omega)
  have e3 := mulOk_le (i := (a.den : Int)) (j := (b.den : Int)) (by simpa using s1.2) (by simpa using s2.2) (by omega)
  have p3 := Nat.mul_le_mul s1.2 s2.2
  rw [pw] at p3
  have ef := F_fraction_ok (t := a.num * b.num) (b := (a.den : Int) * b.den) (Int.mul_ne_zero (den_ne a) (den_ne b)) (n := e + e' + 1) (by rw [Int.natAbs_mul, Int.natAbs_natCast, Int.natAbs_natCast]; exact Nat.lt_of_le_of_lt p3 (Nat.pow_lt_pow_right (by decide) (by omega))) (by omega)
  rw [← mul_di] at ef
  unfold F_times runF n_times
  simp [frD, mulD_int e1, mulD_int e3, ef]
theorem F_over_ok {d1 d2 : D} {a b : Rat} {m e m' e' : Nat} (h1 : isFr d1 a) (h2 : isFr d2 b) (s1 : Fz m e a) (s2 : Fz m' e' b) (h0 : b ≠ 0) (h : m + e + m' + e' < 8900) : F_over [d1, d2] = pure (frD false (a / b)) := by
  obtain ⟨k1, rfl⟩ := h1
  obtain ⟨k2, rfl⟩ := h2
  have hn : b.num ≠ 0 := fun e => h0 (Rat.num_eq_zero.mp e)
  have e1 := mulOk_le (i := a.num) (j := (b.den : Int)) s1.1 (by simpa using s2.2) (by omega)
  have e3 := mulOk_le (i := (a.den : Int)) (j := b.num) (by simpa using s1.2) s2.1 (by omega)
  have p3 := Nat.mul_le_mul s1.2 s2.1
  rw [pw] at p3
  have ef := F_fraction_ok (t := a.num * b.den) (b := (a.den : Int) * b.num) (Int.mul_ne_zero (den_ne a) hn) (n := e + m' + 1) (by rw [Int.natAbs_mul, Int.natAbs_natCast]; exact Nat.lt_of_le_of_lt p3 (Nat.pow_lt_pow_right (by decide) (by omega))) (by omega)
  rw [← div_di h0] at ef
  unfold F_over runF n_over
  simp [frD, mulD_int e1, mulD_int e3, ef]
theorem half_di (a : Rat) : a / 2 = a.num /. (2 * a.den) := by
  have h : (2 : Rat) ≠ 0 := by decide
  rw [div_di h]
  show (a.num * 1) /. (a.den * 2) = _
  rw [Int.mul_one, Int.mul_comm]
/-- the sign of a - b -/
def cmpI (a b : Rat) : Int := if a = b then 0 else if b < a then 1 else -1
theorem F_compared_ok {d1 d2 : D} {a b : Rat} {m e m' e' : Nat} (h1 : isFr d1 a) (h2 : isFr d2 b) (s1 : Fz m e a) (s2 : Fz m' e' b) (h : m + e + m' + e' < 8900) : F_compared [d1, d2] = pure (.int (cmpI a b)) := by
  obtain ⟨k1, rfl⟩ := h1
  obtain ⟨k2, rfl⟩ := h2
  have e1 := mulOk_le (i := a.num) (j := (b.den : Int)) s1.1 (by simpa using s2.2) (by omega)
  have e2 := mulOk_le (i := b.num) (j := (a.den : Int)) s2.1 (by simpa using s1.2) (by omega)
  have lt := Rat.lt_iff b a
  have eq : a = b ↔ a.num * b.den - b.num * a.den = 0 := by
    constructor
    · intro e; subst e; omega
    · intro e
      have l1 := Rat.le_iff a b
      have l2 := Rat.le_iff b a
      exact Rat.le_antisymm (l1.mpr (by omega)) (l2.mpr (by omega))
  unfold F_compared runF n_compared cmpI
  by_cases q : a = b
  · subst q
    simp [frD, mulD_int e1]
  · have e'' : ¬ a.num * b.den - b.num * a.den = 0 := fun z => q (eq.mpr z)
    by_cases l : b < a
    · have l' : b.num * a.den < a.num * b.den := lt.mp l
      simp [frD, mulD_int e1, mulD_int e2, e'', q, l, l']
    · have l' : ¬ b.num * a.den < a.num * b.den := fun z => l (lt.mpr z)
      simp [frD, mulD_int e1, mulD_int e2, e'', q, l, l']
end LF
end
section
set_option Elab.async false
set_option linter.all false
set_option maxRecDepth 10000
namespace LF
open PL Rat
/-- one turn of the law's gcd -/
def gcdB : PEnv → M (Fl × PEnv) := seqM (sIf (mT (mB eqD (getI 3) (mk1 (.int 0)))) sBrk sNil) (sP2 2 3 (vE (getI 3)) (vE (mB modD (mL (arg1 fun d => lift (intO d)) (mC (getI 2) mN)) (getI 3))))
theorem gcdB_zero (t b h : D) (x : Slot) : gcdB [.im t, .im b, .im h, .im (.int 0), x] = pure (.brk, [.im t, .im b, .im h, .im (.int 0), x]) := by
  unfold gcdB
  simp
theorem gcdB_go (t b : D) (h l : Nat) (x : Slot) (hl : l ≠ 0) : gcdB [.im t, .im b, .im (.int h), .im (.int l), x] = pure (.nx, [.im t, .im b, .im (.int l), .im (.int ((h % l : Nat) : Int)), x]) := by
  unfold gcdB
  have h0 : ¬ (l : Int) = 0 := by omega
  have e : (h : Int).fmod l = ((h % l : Nat) : Int) := by
    rw [Int.fmod_eq_emod_of_nonneg _ (by omega)]
    rfl
  simp [modD_int h0, hl, e]
theorem gcd_loop (t b : D) : ∀ (n h l : Nat) (ds : List D) (x : Slot), l < 2 ^ n → 2 * n + 1 ≤ ds.length → ∃ x', loopM (gN 4) gcdB ds [.im t, .im b, .im (.int h), .im (.int l), x] = pure (.nx, [.im t, .im b, .im (.int (Nat.gcd h l : Nat)), .im (.int 0), x']) := by
  intro n
  induction n with
  | zero =>
    intro h l ds x hl hd
    obtain rfl : l = 0 := by simpa using hl
    cases ds with
    | nil => simp at hd
    | cons d ds =>
      refine ⟨.im d, ?_⟩
      unfold loopM
      simp only [gN, List.set_cons_succ, List.set_cons_zero, lift_some, pure_bind', Int.natCast_zero]
      rw [gcdB_zero]
      simp
  | succ n ih =>
    intro h l ds x hl hd
    cases ds with
    | nil => simp at hd
    | cons d ds =>
      by_cases h0 : l = 0
      · subst h0
        refine ⟨.im d, ?_⟩
        unfold loopM
        simp only [gN, List.set_cons_succ, List.set_cons_zero, lift_some, pure_bind', Int.natCast_zero]
        rw [gcdB_zero]
        simp
      · cases ds with
        | nil => simp at hd
        | cons d2 ds =>
          have hr : h % l < l := Nat.mod_lt _ (by omega)
          by_cases h1 : h % l = 0
          · refine ⟨.im d2, ?_⟩
            unfold loopM
            simp only [gN, List.set_cons_succ, List.set_cons_zero, lift_some, pure_bind']
            rw [gcdB_go _ _ _ _ _ h0, h1]
            simp only [pure_bind']
            unfold loopM
            simp only [gN, List.set_cons_succ, List.set_cons_zero, lift_some, pure_bind', Int.natCast_zero]
            rw [gcdB_zero]
            have e : Nat.gcd h l = l := by rw [Nat.gcd_comm, Nat.gcd_rec, h1, Nat.gcd_zero_left]
            simp [e]
          · have hs : l % (h % l) < 2 ^ n := by
              have a1 : l % (h % l) < h % l := Nat.mod_lt _ (by omega)
              have a2 := Nat.div_add_mod l (h % l)
              have a3 : 0 < l / (h % l) := Nat.div_pos (by omega) (by omega)
              have a4 : h % l ≤ (h % l) * (l / (h % l)) := Nat.le_mul_of_pos_right _ a3
              rw [Nat.pow_succ] at hl
              omega
            obtain ⟨x', e⟩ := ih (h % l) (l % (h % l)) ds (.im d2) hs (by simp at hd; omega)
            refine ⟨x', ?_⟩
            unfold loopM
            simp only [gN, List.set_cons_succ, List.set_cons_zero, lift_some, pure_bind']
            rw [gcdB_go _ _ _ _ _ h0]
            simp only [pure_bind']
            unfold loopM
            simp only [gN, List.set_cons_succ, List.set_cons_zero, lift_some, pure_bind']
            rw [gcdB_go _ _ _ _ _ h1]
            simp only [pure_bind']
            rw [e]
            have e2 : Nat.gcd (h % l) (l % (h % l)) = Nat.gcd h l := by
              rw [Nat.gcd_comm h l, Nat.gcd_rec l h, Nat.gcd_comm (h % l) (l % (h % l)), ← Nat.gcd_rec (h % l) l]
            rw [e2]
theorem F_frac_ok {t b : Int} (hb : b ≠ 0) {n : Nat} (hn : b.natAbs < 2 ^ n) (h : n < 2990) : F__law_frac [.int t, .int b] = pure (frD false (t /. b)) := by
  have hp : 0 < b.natAbs := by omega
  have h1 : Nat.gcd t.natAbs b.natAbs ≤ b.natAbs := Nat.gcd_le_right _ hp
  have h2 : 0 < Nat.gcd t.natAbs b.natAbs := Nat.gcd_pos_of_pos_right _ hp
  have ab : ∀ i : Int, (if i < 0 then -i else i) = (i.natAbs : Int) := fun i => by split <;> omega
  obtain ⟨x', e⟩ := gcd_loop (.int t) (.int b) n t.natAbs b.natAbs (rangeL 0 6000) .un hn (by simp [rangeL]; omega)
  have er : rng1O (.int 6000) = some (rangeL 0 6000) := rfl
  unfold F__law_frac runF n__law_frac
  have eb : seqM (sIf (mT (mB eqD (getI 3) (mk1 (.int 0)))) sBrk sNil) (sP2 2 3 (vE (getI 3)) (vE (mB modD (mL (arg1 fun d => lift (intO d)) (mC (getI 2) mN)) (getI 3)))) = gcdB := rfl
  rw [eb]
  by_cases h3 : 0 < b
  · have hd : divOk ((Nat.gcd t.natAbs b.natAbs : Nat) : Int) = true := divOk_lt (n := n) (by omega) (by omega) (by omega)
    have p := div_num (t := t) h3
    have q := div_den (t := t) h3
    simp [ab, er, e, h3, fdivD_int hd, mkTup_ok, frD, p, q]
  · have hd : divOk (-((Nat.gcd t.natAbs b.natAbs : Nat) : Int)) = true := divOk_lt (n := n) (by omega) (by omega) (by omega)
    have p := div_num (t := -t) (b := -b) (by omega)
    have q := div_den (t := -t) (b := -b) (by omega)
    rw [neg_neg_div] at p q
    simp only [Int.natAbs_neg] at p q
    have p2 : t.fdiv (-((Nat.gcd t.natAbs b.natAbs : Nat) : Int)) = (t /. b).num := by rw [← p, ← Int.neg_fdiv_neg, Int.neg_neg]
    have q2 : b.fdiv (-((Nat.gcd t.natAbs b.natAbs : Nat) : Int)) = ((t /. b).den : Int) := by rw [← q, ← Int.neg_fdiv_neg, Int.neg_neg]
    simp [ab, er, e, h3, fdivD_int hd, mkTup_ok, frD, p2, q2]
end LF
end
section
set_option Elab.async false
set_option linter.all false
set_option maxRecDepth 10000
namespace LF
open PL Rat
theorem F__law_plus_ok {d1 d2 : D} {a b : Rat} {m e m' e' : Nat} (h1 : isFr d1 a) (h2 : isFr d2 b) (s1 : Fz m e a) (s2 : Fz m' e' b) (h : m + e + m' + e' < 2900) : F__law_plus [d1, d2] = pure (frD false (a + b)) := by
  obtain ⟨k1, rfl⟩ := h1
  obtain ⟨k2, rfl⟩ := h2
  have e1 := mulOk_le (i := a.num) (j := (b.den : Int)) s1.1 (by simpa using s2.2) (by omega)
  have e2 := mulOk_le (i := b.num) (j := (a.den : Int)) s2.1 (by simpa using s1.2) (by omega)
  have e3 := mulOk_le (i := (a.den : Int)) (j := (b.den : Int)) (by simpa using s1.2) (by simpa using s2.2) (by omega)
  have p3 := Nat.mul_le_mul s1.2 s2.2
  rw [pw] at p3
  have ef := F_frac_ok (t := a.num * b.den + b.num * a.den) (b := (a.den : Int) * b.den) (Int.mul_ne_zero (den_ne a) (den_ne b)) (n := e + e' + 1) (by rw [Int.natAbs_mul, Int.natAbs_natCast, Int.natAbs_natCast]; exact Nat.lt_of_le_of_lt p3 (Nat.pow_lt_pow_right (by decide) (by omega))) (by omega)
  rw [← add_di] at ef
  unfold F__law_plus runF n__law_plus
  simp [frD, mulD_int e1, mulD_int e2, mulD_int e3, ef]
theorem F__law_less_ok {d1 d2 : D} {a b : Rat} {m e m' e' : Nat} (h1 : isFr d1 a) (h2 : isFr d2 b) (s1 : Fz m e a) (s2 : Fz m' e' b) (h : m + e + m' + e' < 2900) : F__law_less [d1, d2] = pure (frD false (a - b)) := by
  obtain ⟨k1, rfl⟩ := h1
  obtain ⟨k2, rfl⟩ := h2
  have e1 := mulOk_le (i := a.num) (j := (b.den : Int)) s1.1 (by simpa using s2.2) (by omega)
  have e2 := mulOk_le (i := b.num) (j := (a.den : Int)) s2.1 (by simpa using s1.2) (by omega)
  have e3 := mulOk_le (i := (a.den : Int)) (j := (b.den : Int)) (by simpa using s1.2) (by simpa using s2.2) (by omega)
  have p3 := Nat.mul_le_mul s1.2 s2.2
  rw [pw] at p3
  have ef := F_frac_ok (t := a.num * b.den - b.num * a.den) (b := (a.den : Int) * b.den) (Int.mul_ne_zero (den_ne a) (den_ne b)) (n := e + e' + 1) (by rw [Int.natAbs_mul, Int.natAbs_natCast, Int.natAbs_natCast]; exact Nat.lt_of_le_of_lt p3 (Nat.pow_lt_pow_right (by decide) (by omega))) (by omega)
  rw [← sub_di] at ef
  unfold F__law_less runF n__law_less
  simp [frD, mulD_int e1, mulD_int e2, mulD_int e3, ef]
theorem F__law_over_ok {d1 d2 : D} {a b : Rat} {m e m' e' : Nat} (h1 : isFr d1 a) (h2 : isFr d2 b) (s1 : Fz m e a) (s2 : Fz m' e' b) (h0 : b ≠ 0) (h : m + e + m' + e' < 2900) : F__law_over [d1, d2] = pure (frD false (a / b)) := by
  obtain ⟨k1, rfl⟩ := h1
  obtain ⟨k2, rfl⟩ := h2
  have hn : b.num ≠ 0 := fun e => h0 (Rat.num_eq_zero.mp e)
  have e1 := mulOk_le (i := a.num) (j := (b.den : Int)) s1.1 (by simpa using s2.2) (by omega)
  have e3 := mulOk_le (i := (a.den : Int)) (j := b.num) (by simpa using s1.2) s2.1 (by omega)
  have p3 := Nat.mul_le_mul s1.2 s2.1
  rw [pw] at p3
  have ef := F_frac_ok (t := a.num * b.den) (b := (a.den : Int) * b.num) (Int.mul_ne_zero (den_ne a) hn) (n := e + m' + 1) (by rw [Int.natAbs_mul, Int.natAbs_natCast]; exact Nat.lt_of_le_of_lt p3 (Nat.pow_lt_pow_right (by decide) (by omega))) (by omega)
  rw [← div_di h0] at ef
  unfold F__law_over runF n__law_over
  simp [frD, mulD_int e1, mulD_int e3, ef]
theorem F__law_below_ok {d1 d2 : D} {a b : Rat} {m e m' e' : Nat} (h1 : isFr d1 a) (h2 : isFr d2 b) (s1 : Fz m e a) (s2 : Fz m' e' b) (h : m + e + m' + e' < 890000) : F__law_below [d1, d2] = pure (.bl (decide (a < b))) := by
  obtain ⟨k1, rfl⟩ := h1
  obtain ⟨k2, rfl⟩ := h2
  have e1 := mulOk_le (i := a.num) (j := (b.den : Int)) s1.1 (by simpa using s2.2) (by omega)
  have e2 := mulOk_le (i := b.num) (j := (a.den : Int)) s2.1 (by simpa using s1.2) (by omega)
  have lt := Rat.lt_iff a b
  unfold F__law_below runF n__law_below
  simp [frD, mulD_int e1, mulD_int e2, lt]
end LF
end
section
set_option Elab.async false
set_option linter.all false
set_option maxRecDepth 10000
namespace LF
open PL
def drawC : PEnv → M Bool := aAnd (mT (mB dealNe (mB dealIx (getI 0) (mk1 (.int 0))) (mF (fL (mN))))) (mT (mB eqD (mB dealIx (mB dealIx (getI 0) (mk1 (.int 0))) (mU negD (mk1 (.int 1)))) (mk1 (.int 0))))
def drawB : PEnv → M (Fl × PEnv) := sE (mU dealPop (mB dealIx (getI 0) (mk1 (.int 0))))
theorem drawC_nil (x y : Slot) (s : Dl) (h : s.ds = []) : drawC [.im .deal, x, y] s = .ok false s := by
  unfold drawC
  simp [mkLst_ok, bind_run, dealNe_run, h, asB]
theorem drawC_last (x y : Slot) (s : Dl) (z : Int) (h : s.ds[s.ds.length - 1]? = some z) : drawC [.im .deal, x, y] s = .ok (decide (z = 0)) s := by
  have hn : s.ds.isEmpty = false := by
    cases e : s.ds with
    | nil => rw [e] at h; cases h
    | cons a l => rfl
  unfold drawC
  simp [mkLst_ok, bind_run, dealNe_run, hn, dealLast_run h, asB]
theorem drawB_run (x y : Slot) (s : Dl) (z : Int) (h : s.ds[s.ds.length - 1]? = some z) : drawB [.im .deal, x, y] s = .ok (.nx, [.im .deal, x, y]) { s with ds := s.ds.dropLast } := by
  unfold drawB
  simp [bind_run, dealPop_run h]
theorem draw_loop (x y : Slot) : ∀ (n : Nat) (s : Dl), s.ds.length < n → ∃ s', whileM drawC drawB n [.im .deal, x, y] s = .ok (.nx, [.im .deal, x, y]) s' ∧ s'.ds.length ≤ s.ds.length ∧ s'.mix = s.mix := by
  intro n
  induction n with
  | zero => intro s h; omega
  | succ n ih =>
    intro s h
    unfold whileM
    cases e : s.ds[s.ds.length - 1]? with
    | none =>
      have e0 : s.ds = [] := by
        cases e1 : s.ds with
        | nil => rfl
        | cons a l => rw [e1] at e; simp at e
      refine ⟨s, ?_, Nat.le_refl _, rfl⟩
      rw [run_ok (drawC_nil x y s e0)]
      rfl
    | some z =>
      rw [run_ok (drawC_last x y s z e)]
      by_cases hz : z = 0
      · rw [hz]
        simp only [decide_true, if_true]
        rw [run_ok (drawB_run x y s z e)]
        have hne : s.ds ≠ [] := fun q => by rw [q] at e; cases e
        have hl : s.ds.dropLast.length < n := by
          rw [List.length_dropLast]
          have := List.length_pos_iff.mpr hne
          omega
        obtain ⟨s', e2, l2, m2⟩ := ih { s with ds := s.ds.dropLast } hl
        refine ⟨s', e2, ?_, m2⟩
        have : s'.ds.length ≤ s.ds.dropLast.length := l2
        rw [List.length_dropLast] at this
        omega
      · refine ⟨s, ?_, Nat.le_refl _, rfl⟩
        rw [decide_eq_false hz]
        rfl
end LF
end
section
set_option Elab.async false
set_option linter.all false
set_option maxRecDepth 10000
namespace LF
open PL
theorem fmod_rng (a : Int) {b : Int} (h : 0 < b) : 0 ≤ a.fmod b ∧ a.fmod b < b := by
  rw [Int.fmod_eq_emod_of_nonneg _ (by omega)]
  exact ⟨Int.emod_nonneg _ (by omega), Int.emod_lt_of_pos _ h⟩
theorem draw_ok {b : Int} (h0 : 0 < b) (hb : b < 2 ^ 60) {s : Dl} (ok : OkS s) : ∃ r s', F__law_draw [.deal, .int b] s = .ok (.int r) s' ∧ 0 ≤ r ∧ r < b ∧ OkS s' := by
  obtain ⟨s1, e1, l1, m1⟩ := draw_loop (.im (.int b)) .un 1000 s (by have := ok.1; omega)
  have b0 : b ≠ 0 := by omega
  have hd : divOk b = true := divOk_lt (n := 61) b0 (by omega) (by omega)
  unfold F__law_draw runF n__law_draw
  have ec : (aAnd (mT (mB dealNe (mB dealIx (getI 0) (mk1 (.int 0))) (mF (fL (mN))))) (mT (mB eqD (mB dealIx (mB dealIx (getI 0) (mk1 (.int 0))) (mU negD (mk1 (.int 1)))) (mk1 (.int 0))))) = drawC := rfl
  have ebb : (sE (mU dealPop (mB dealIx (getI 0) (mk1 (.int 0))))) = drawB := rfl
  rw [ec, ebb]
  have env : (([.deal, .int b] : List D).map Slot.im ++ List.replicate (3 - ([.deal, .int b] : List D).length) .un) = [.im .deal, .im (.int b), .un] := rfl
  rw [env]
  have e2 : ∀ {β : Type} (f : Fl × PEnv → M β), ((sWh 1000 drawC drawB) [.im .deal, .im (.int b), .un] >>= f) s = f (.nx, [.im .deal, .im (.int b), .un]) s1 := fun {β} f => run_ok e1
  cases e : s1.ds[s1.ds.length - 1]? with
  | none =>
    have en : s1.ds = [] := by
      cases e3 : s1.ds with
      | nil => rfl
      | cons a l => rw [e3] at e; simp at e
    have hm : mulOk s1.mix 48271 = true := mulOk_lt (m := 31) (n := 31) (by rw [m1]; exact ok.2) (by decide) (by omega)
    have r1 := fmod_rng (s1.mix * 48271 + 107) (b := 2147483647) (by omega)
    have hd64 : divOk 64 = true := by decide
    have h64 : ((2147483647 : Int)) ≠ 0 := by omega
    refine ⟨(((s1.mix * 48271 + 107).fmod 2147483647).fdiv 64).fmod b, { s1 with mix := (s1.mix * 48271 + 107).fmod 2147483647 }, ?_, (fmod_rng _ h0).1, (fmod_rng _ h0).2, ?_, ?_⟩
    · simp only [seqM, bind_assoc']
      rw [e2]
      simp [bind_run, dealNe_run, en, mkLst_ok, dealIx1_run, mulD_int hm, modD_int h64, dealSet_run, fdivD_int hd64, modD_int b0, asB]
    · show s1.ds.length ≤ 63
      have := ok.1
      omega
    · show ((s1.mix * 48271 + 107).fmod 2147483647).natAbs < 2 ^ 31
      omega
  | some z =>
    have hne : s1.ds.isEmpty = false := by
      cases e3 : s1.ds with
      | nil => rw [e3] at e; cases e
      | cons a l => rfl
    have hl : s1.ds.dropLast.length ≤ 1000 := by
      rw [List.length_dropLast]
      have := ok.1
      omega
    refine ⟨z.fmod b, { s1 with ds := s1.ds.dropLast ++ [z.fdiv b] }, ?_, (fmod_rng _ h0).1, (fmod_rng _ h0).2, ?_, ?_⟩
    · simp only [seqM, bind_assoc']
      rw [e2]
      have ea := dealApp_run (s := { s1 with ds := s1.ds.dropLast }) (i := z.fdiv b) hl
      simp [bind_run, dealNe_run, hne, mkLst_ok, dealPop_run e, fdivD_int hd, ea, modD_int b0, asB]
    · show (s1.ds.dropLast ++ [z.fdiv b]).length ≤ 63
      have hn : s1.ds ≠ [] := fun q => by rw [q] at hne; cases hne
      have := List.length_pos_iff.mpr hn
      rw [List.length_append, List.length_dropLast, List.length_singleton]
      have := ok.1
      omega
    · show s1.mix.natAbs < 2 ^ 31
      rw [m1]
      exact ok.2
end LF
end
section
set_option Elab.async false
set_option linter.all false
set_option maxRecDepth 10000
namespace LF
open PL
theorem pick_core {v : D} {l : List D} (hv : (arg1 lenD) [v] = pure (.int l.length)) (hs : ∀ (i : Nat) (d : D), l[i]? = some d → subAny v (.int (i : Int)) = pure d) (h0 : 0 < l.length) (h1 : l.length ≤ 1000) {s : Dl} (ok : OkS s) :
    ∃ d s', F__law_pick [.deal, v] s = .ok d s' ∧ d ∈ l ∧ OkS s' := by
  obtain ⟨r, s', e, r0, r1, ok'⟩ := draw_ok (b := (l.length : Int)) (by omega) (by omega) ok
  have hr : r.toNat < l.length := by omega
  have er : r = (r.toNat : Int) := by omega
  refine ⟨l[r.toNat], s', ?_, List.getElem_mem hr, ok'⟩
  have es := hs r.toNat l[r.toNat] (List.getElem?_eq_getElem hr)
  rw [← er] at es
  unfold F__law_pick runF n__law_pick
  simp [hv, callM_ok, bind_assoc']
  rw [run_ok e]
  simp [es]
theorem pick_lst {l : List D} (h0 : 0 < l.length) (h1 : l.length ≤ 1000) {s : Dl} (ok : OkS s) : ∃ d s', F__law_pick [.deal, .lst l] s = .ok d s' ∧ d ∈ l ∧ OkS s' :=
  pick_core rfl (fun i d h => subAny_lst h) h0 h1 ok
theorem pick_tup {k : Bool} {l : List D} (h0 : 0 < l.length) (h1 : l.length ≤ 1000) {s : Dl} (ok : OkS s) : ∃ d s', F__law_pick [.deal, .tup k l] s = .ok d s' ∧ d ∈ l ∧ OkS s' :=
  pick_core rfl (fun i d h => subAny_tup h) h0 h1 ok
end LF
end
section
set_option Elab.async false
set_option linter.all false
set_option maxRecDepth 10000
set_option pp.maxSteps 3000
namespace LF
open PL
theorem draw_wp {b : Int} (h0 : 0 < b) (hb : b < 2 ^ 60) {s : Dl} (ok : OkS s) : wp (F__law_draw [.deal, .int b] s) (fun r s' => ∃ i : Nat, r = .int i ∧ (i : Int) < b ∧ OkS s') := by
  obtain ⟨r, s', e, h1, h2, h3⟩ := draw_ok h0 hb ok
  rw [e]
  exact ⟨r.toNat, by rw [Int.toNat_of_nonneg h1], by omega, h3⟩
theorem pick_wp {l : List D} (h0 : 0 < l.length) (h1 : l.length ≤ 1000) {s : Dl} (ok : OkS s) : wp (F__law_pick [.deal, .lst l] s) (fun r s' => r ∈ l ∧ OkS s') := by
  obtain ⟨r, s', e, h1, h3⟩ := pick_lst h0 h1 ok
  rw [e]
  exact ⟨h1, h3⟩
theorem pickT_wp {k : Bool} {l : List D} (h0 : 0 < l.length) (h1 : l.length ≤ 1000) {s : Dl} (ok : OkS s) : wp (F__law_pick [.deal, .tup k l] s) (fun r s' => r ∈ l ∧ OkS s') := by
  obtain ⟨r, s', e, h1, h3⟩ := pick_tup (k := k) h0 h1 ok
  rw [e]
  exact ⟨h1, h3⟩
def ringT : List D := [.tup false [.int 0, .int 1, .int 4], .tup false [.int 0, .int 4, .int 3], .tup false [.int 1, .int 2, .int 5], .tup false [.int 1, .int 5, .int 4], .tup false [.int 0, .int 3, .int 2], .tup false [.int 2, .int 3, .int 5]]
def ringU : List D := [.tup false [.int 6, .int 2, .int 8], .tup false [.int 6, .int 8, .int 7], .tup false [.int 2, .int 1, .int 9], .tup false [.int 2, .int 9, .int 8], .tup false [.int 6, .int 7, .int 1], .tup false [.int 1, .int 7, .int 9]]
/-- a way of a triangle stands among the edges -/
def inE (es : List (Nat × Nat)) (a b : Nat) : Prop := (min a b, max a b) ∈ es
instance (es : List (Nat × Nat)) (a b : Nat) : Decidable (inE es a b) := inferInstanceAs (Decidable ((min a b, max a b) ∈ es))
def TriE (es : List (Nat × Nat)) (d : D) : Prop := ∃ (k : Bool) (a b c : Nat), d = .tup k [.int a, .int b, .int c] ∧ inE es a b ∧ inE es b c ∧ inE es c a
def EB (ne : Nat) (ts : List D) : Prop := ∃ es : List (Nat × Nat), es.length ≤ ne ∧ ∀ d ∈ ts, TriE es d
theorem EB.mono {n n' : Nat} {ts : List D} (h : EB n ts) (le : n ≤ n') : EB n' ts := let ⟨es, h1, h2⟩ := h; ⟨es, Nat.le_trans h1 le, h2⟩
theorem EB.sub {n : Nat} {ts us : List D} (h : EB n ts) (le : ∀ d ∈ us, d ∈ ts) : EB n us := let ⟨es, h1, h2⟩ := h; ⟨es, h1, fun d hd => h2 d (le d hd)⟩
theorem TriE.get {es : List (Nat × Nat)} {k : Bool} {a b c : Nat} (h : TriE es (.tup k [.int a, .int b, .int c])) : inE es a b ∧ inE es b c ∧ inE es c a := by
  obtain ⟨k', a', b', c', e, h⟩ := h
  injection e with _ e
  injection e with e1 e
  injection e with e2 e
  injection e with e3 _
  injection e1 with e1
  injection e2 with e2
  injection e3 with e3
  rw [show a = a' by omega, show b = b' by omega, show c = c' by omega]
  exact h
/-- points and triangles -/
structure MeshD (B np nt nE : Nat) (ps ts : List D) : Prop where
  pt : ∀ d ∈ ps, PtD B d
  tr : ∀ d ∈ ts, TriD ps.length d
  lp : ps.length ≤ np
  lt : ts.length ≤ nt
  ne : 0 < ts.length
  eb : EB nE ts
def IsMesh (B np nt nE : Nat) (r : D) (s : Dl) : Prop := ∃ k ps ts, r = .tup k [.lst ps, .lst ts] ∧ MeshD B np nt nE ps ts ∧ OkS s
theorem lit_pt {x y : Int} {B : Nat} (hx : x.natAbs ≤ B) (hy : y.natAbs ≤ B) : PtD B (.tup false [.int x, .int y]) := ⟨false, x, y, rfl, hx, hy⟩
theorem slants_wp {own : List Nat} {g : D → PEnv → Option PEnv} {me : PEnv → M D} {ρ : PEnv} {R : List D → Dl → Prop} {ds : List D} {s : Dl} {B C : Nat} (hl : ds.length ≤ 1000) (hf : ownFree ρ own = true) (ok : OkS s) (hd : ∀ d ∈ ds, PtD B d)
    (st : ∀ (k : Bool) (x y : Int) s, x.natAbs ≤ B → y.natAbs ≤ B → OkS s → kA g (wipeE ρ own) (kCp aTrue me (fun o s' => (∃ z, o = some z ∧ PtD C z) ∧ OkS s')) (.tup k [.int x, .int y]) s)
    (k : ∀ zs s', zs.length = ds.length → (∀ z ∈ zs, PtD C z) → OkS s' → R zs s') : kB own g aTrue me ρ R ds s := by
  refine kB_all OkS (fun _ z => PtD C z) hl hf ok (fun d hd' s ok => ?_) fun zs s' ha ok' => k zs s' ha.length.symm (fun z hz => (ha.mem_right hz).elim fun _ q => q.2) ok'
  obtain ⟨k, x, y, rfl, hx, hy⟩ := hd d hd'
  exact st k x y s hx hy ok
def ringE : List (Nat × Nat) := [(0, 1), (0, 2), (0, 3), (0, 4), (1, 2), (1, 4), (1, 5), (2, 3), (2, 5), (3, 4), (3, 5), (4, 5)]
def ringF : List (Nat × Nat) := [(1, 2), (1, 6), (1, 7), (1, 9), (2, 6), (2, 8), (2, 9), (6, 7), (6, 8), (7, 8), (7, 9), (8, 9)]
theorem ringT_eb : ∀ d ∈ ringT, TriE ringE d := by
  intro d hd
  simp only [ringT, List.mem_cons, List.not_mem_nil, or_false] at hd
  rcases hd with rfl | rfl | rfl | rfl | rfl | rfl
  all_goals exact ⟨false, _, _, _, rfl, by decide, by decide, by decide⟩
theorem ringU_eb : ∀ d ∈ ringU, TriE ringF d := by
  intro d hd
  simp only [ringU, List.mem_cons, List.not_mem_nil, or_false] at hd
  rcases hd with rfl | rfl | rfl | rfl | rfl | rfl
  all_goals exact ⟨false, _, _, _, rfl, by decide, by decide, by decide⟩
theorem TriE.mono {es fs : List (Nat × Nat)} {d : D} (h : TriE es d) (le : ∀ e ∈ es, e ∈ fs) : TriE fs d := let ⟨k, a, b, c, e, h1, h2, h3⟩ := h; ⟨k, a, b, c, e, le _ h1, le _ h2, le _ h3⟩
theorem ringed_wp (m : Int) {s : Dl} (ok : OkS s) : wp (F__law_ringed [.deal, .int m] s) (IsMesh 78 10 12 35) := by
  unfold F__law_ringed
  refine run_wp ?_
  unfold n__law_ringed
  simp
  refine wp_call (draw_wp (by omega) (by omega) ok) ?_
  rintro _ s1 ⟨i, rfl, hi, ok1⟩
  simp
  refine slants_wp (B := 24) (C := 26) (by simp) (by rfl) ok1 ?_ ?_ ?_
  · intro p hp
    simp only [List.mem_cons, List.not_mem_nil, or_false] at hp
    rcases hp with rfl | rfl | rfl | rfl
    all_goals exact lit_pt (by decide) (by decide)
  · intro k x y s hx hy ok
    simp
    refine wp_call (draw_wp (by omega) (by omega) ok) ?_
    rintro _ s1 ⟨i, rfl, hi, ok1⟩
    simp
    refine wp_call (draw_wp (by omega) (by omega) ok1) ?_
    rintro _ s2 ⟨j, rfl, hj, ok2⟩
    simp
    exact ⟨⟨false, _, _, rfl, by omega, by omega⟩, ok2⟩
  intro zs s2 hl hz ok2
  simp at hl
  have h3 : 3 < zs.length := by omega
  have e3 : zs[3]? = some zs[3] := List.getElem?_eq_getElem h3
  have pz : PtD 26 zs[3] := hz _ (List.getElem_mem h3)
  have st : ∀ (k : Bool) (x y : Int) (s : Dl) (a b c d : Slot), x.natAbs ≤ 26 → y.natAbs ≤ 26 → OkS s →
    kA (gTup' (gCons' (gN 6) (gCons' (gN 7) gNil'))) (wipeE [.im .deal, a, .im (.int (↑i - 2)), b, c, d, .un, .un] [6, 7]) (kCp aTrue (mL mkTup (mC (mB addD (getI 6) (mB mulD (getI 2) (getI 7))) (mC (getI 7) mN))) (fun o s' => (∃ z, o = some z ∧ PtD 78 z) ∧ OkS s')) (.tup k [.int x, .int y]) s := by
    intro k x y s a b c d hx hy ok
    have hm : mulOk (↑i - 2) y = true := mulOk_lt (m := 3) (n := 10) (by omega) (by omega) (by omega)
    have hb : ((i - 2 : Int) * y).natAbs ≤ 2 * 26 := by
      rw [Int.natAbs_mul]
      exact Nat.mul_le_mul (by omega) hy
    simp [mulD_int hm]
    exact ⟨⟨false, _, _, rfl, by omega, by omega⟩, ok⟩
  have hT : ∀ d ∈ ringT, TriD 6 d := by
    intro d hd
    simp only [ringT, List.mem_cons, List.not_mem_nil, or_false] at hd
    rcases hd with rfl | rfl | rfl | rfl | rfl | rfl
    all_goals exact ⟨false, _, _, _, rfl, by decide, by decide, by decide⟩
  have hU : ∀ d ∈ ringU, TriD 10 d := by
    intro d hd
    simp only [ringU, List.mem_cons, List.not_mem_nil, or_false] at hd
    rcases hd with rfl | rfl | rfl | rfl | rfl | rfl
    all_goals exact ⟨false, _, _, _, rfl, by decide, by decide, by decide⟩
  have hP : ∀ d ∈ zs.take 3 ++ [.tup false [.int 5, .int 5], .tup false [.int 10, .int 5], .tup false [.int 5, .int 10]], PtD 26 d := by
    intro d hd
    rcases List.mem_append.mp hd with hd | hd
    · exact hz d (List.mem_of_mem_take hd)
    · simp only [List.mem_cons, List.not_mem_nil, or_false] at hd
      rcases hd with rfl | rfl | rfl
      all_goals exact lit_pt (by decide) (by decide)
  have lt : (zs.take 3).length = 3 := by rw [List.length_take]; omega
  simp [lt]
  refine kIf_d (fun hm => ?_) (fun hm => ?_)
  · simp [e3, lt]
    refine slants_wp (B := 26) (C := 78) (by simp [lt]) (by rfl) ok2 ?_ (fun k x y s hx hy ok => st k x y s _ _ _ _ hx hy ok) (fun qs s' hl hq ok' => ?_)
    · intro d hd
      have hd : d ∈ (zs.take 3 ++ [.tup false [.int 5, .int 5], .tup false [.int 10, .int 5], .tup false [.int 5, .int 10]]) ++ [zs[3], .tup false [.int 19, .int 19], .tup false [.int 14, .int 19], .tup false [.int 19, .int 14]] := by simpa using hd
      rcases List.mem_append.mp hd with hd | hd
      · exact hP d hd
      · simp only [List.mem_cons, List.not_mem_nil, or_false] at hd
        rcases hd with rfl | rfl | rfl | rfl
        · exact pz
        all_goals exact lit_pt (by decide) (by decide)
    · have hl : qs.length = 10 := by simpa [lt] using hl
      refine ⟨false, qs, ringT ++ ringU, rfl, ⟨hq, fun d hd => ?_, by omega, by decide, by decide, ringE ++ ringF, by decide, fun d hd => (List.mem_append.mp hd).elim (fun h => (ringT_eb d h).mono fun e he => List.mem_append_left _ he) fun h => (ringU_eb d h).mono fun e he => List.mem_append_right _ he⟩, ok'⟩
      rw [hl]
      rcases List.mem_append.mp hd with hd | hd
      · exact (hT d hd).mono (by decide)
      · exact hU d hd
  · simp
    refine slants_wp (B := 26) (C := 78) (by simp [lt]) (by rfl) ok2 hP (fun k x y s hx hy ok => st k x y s _ _ _ _ hx hy ok) (fun qs s' hl hq ok' => ?_)
    have hl : qs.length = 6 := by simpa [lt] using hl
    exact ⟨false, qs, ringT, rfl, ⟨hq, fun d hd => by rw [hl]; exact hT d hd, by omega, by decide, by decide, ringE, by decide, ringT_eb⟩, ok'⟩
end LF
end
section
set_option Elab.async false
set_option linter.all false
set_option maxRecDepth 10000
set_option pp.maxSteps 3000
namespace LF
open PL
theorem mulOk_s {i j : Int} (hi : i.natAbs < 2 ^ 100) (hj : j.natAbs < 2 ^ 100) : mulOk i j = true := mulOk_lt (m := 100) (n := 100) hi hj (by omega)
theorem rng1_nat {n : Nat} (h : n < 2 ^ 60) : rng1O (.int (n : Int)) = some (rangeL 0 n) := by
  show (if small62 (n : Int) then some (rangeL 0 (n : Int).toNat) else none) = _
  rw [if_pos]
  · rfl
  · unfold small62
    exact decide_eq_true ⟨by omega, by omega⟩
theorem rangeL_get {n i : Nat} {d : D} (h : (rangeL 0 n)[i]? = some d) : i < n ∧ d = .int (i : Int) := by
  unfold rangeL at h
  rw [List.getElem?_map] at h
  by_cases hi : i < n
  · rw [List.getElem?_range hi] at h
    simp at h
    exact ⟨hi, h.symm⟩
  · rw [List.getElem?_eq_none (by simp; omega)] at h
    cases h
@[simp] theorem rangeL_len {n : Nat} : (rangeL 0 n).length = n := by unfold rangeL; simp
/-- the edges a lattice may have -/
def latE (w n : Nat) : List (Nat × Nat) := (List.range n).flatMap fun x => (List.range n).filterMap fun y => if x < y ∧ (y = x + 1 ∨ y = x + w ∨ y = x + w + 1 ∨ y = x + w + 2) then some (x, y) else none
theorem latE_mem {w n x y : Nat} (h1 : x < y) (h2 : y < n) (h : y = x + 1 ∨ y = x + w ∨ y = x + w + 1 ∨ y = x + w + 2) : (x, y) ∈ latE w n := by
  unfold latE
  rw [List.mem_flatMap]
  refine ⟨x, List.mem_range.mpr (by omega), List.mem_filterMap.mpr ⟨y, List.mem_range.mpr h2, ?_⟩⟩
  rw [if_pos ⟨h1, h⟩]
theorem latE_in {w n x y : Nat} (hx : x < n) (hy : y < n) (h0 : x ≠ y) (h : y = x + 1 ∨ y = x + w ∨ y = x + w + 1 ∨ y = x + w + 2 ∨ x = y + 1 ∨ x = y + w ∨ x = y + w + 1 ∨ x = y + w + 2) : inE (latE w n) x y := by
  unfold inE
  rcases Nat.lt_or_ge x y with c | c
  · rw [Nat.min_eq_left (by omega), Nat.max_eq_right (by omega)]
    exact latE_mem c hy (by omega)
  · rw [Nat.min_eq_right (by omega), Nat.max_eq_left (by omega)]
    exact latE_mem (by omega) hx (by omega)
theorem latE_len {w h : Nat} (hw0 : 0 < w) (hw : w ≤ 3) (hh0 : 0 < h) (hh : h ≤ 2) : (latE w ((w + 1) * (h + 1))).length ≤ 35 := by
  obtain ⟨w', rfl⟩ : ∃ w', w = w' + 1 := ⟨w - 1, by omega⟩
  obtain ⟨h', rfl⟩ : ∃ h', h = h' + 1 := ⟨h - 1, by omega⟩
  have e : ∀ w' : Fin 3, ∀ h' : Fin 2, (latE (w'.val + 1) ((w'.val + 1 + 1) * (h'.val + 1 + 1))).length ≤ 35 := by decide +kernel
  exact e ⟨w', by omega⟩ ⟨h', by omega⟩
theorem lattice_wp {w h : Nat} (hw0 : 0 < w) (hw : w ≤ 3) (hh0 : 0 < h) (hh : h ≤ 2) {s : Dl} (ok : OkS s) : wp (F__law_lattice [.deal, .int w, .int h] s) (IsMesh 220 12 12 35) := by
  unfold F__law_lattice
  refine run_wp ?_
  unfold n__law_lattice
  simp
  refine wp_call (pick_wp (by simp) (by simp) ok) ?_
  intro b s1 ⟨hb, ok1⟩
  obtain ⟨b, rfl, hb0, hb3⟩ : ∃ i : Nat, b = .int i ∧ 0 < i ∧ i ≤ 3 := by
    simp at hb
    rcases hb with rfl | rfl
    · exact ⟨1, rfl, by decide, by decide⟩
    · exact ⟨3, rfl, by decide, by decide⟩
  simp
  refine wp_call (draw_wp (by omega) (by omega) ok1) ?_
  rintro _ s2 ⟨sl, rfl, hsl, ok2⟩
  have m1 : mulOk ((w : Int) + 1) ((h : Int) + 1) = true := mulOk_s (by omega) (by omega)
  have e1 : ((w : Int) + 1) * ((h : Int) + 1) = (((w + 1) * (h + 1) : Nat) : Int) := by simp
  have l1 : (w + 1) * (h + 1) ≤ 12 := Nat.mul_le_mul (show w + 1 ≤ 4 by omega) (show h + 1 ≤ 3 by omega)
  simp [mulD_int m1]
  rw [e1, rng1_nat (by omega)]
  simp
  obtain ⟨I, hI⟩ : ∃ I : Nat → PEnv → Dl → Prop, I = fun i ρ s => OkS s ∧ ∃ ps x y z, ps.length = i ∧ (∀ d ∈ ps, PtD 220 d) ∧ ρ = [.im .deal, .im (.int w), .im (.int h), .im (.int b), .im (.int (sl - 2)), .mu ps, .im (.lst []), x, y, z, .un, .un, .un, .un, .un, .un] := ⟨_, rfl⟩
  refine for_inv I (by rw [hI]; exact ⟨ok2, [], _, _, _, rfl, by simp, rfl⟩) ?_ ?_
  · intro i d ρ s hd hi
    rw [hI] at hi
    obtain ⟨ok, ps, x, y, z, hl, hp, rfl⟩ := hi
    obtain ⟨hi, rfl⟩ := rangeL_get hd
    have dv : divOk ((w : Int) + 1) = true := divOk_lt (n := 10) (by omega) (by omega) (by omega)
    have dv2 : divOk 2 = true := by decide
    have r1 := fmod_rng (i : Int) (b := (w : Int) + 1) (by omega)
    have m2 : mulOk 5 ((i : Int).fmod ((w : Int) + 1)) = true := mulOk_s (by omega) (by omega)
    have r2 : 0 ≤ (i : Int).fdiv ((w : Int) + 1) ∧ (i : Int).fdiv ((w : Int) + 1) ≤ 12 := by
      rw [Int.fdiv_eq_ediv_of_nonneg _ (by omega)]
      exact ⟨Int.ediv_nonneg (by omega) (by omega), Int.le_trans (Int.ediv_le_self _ (by omega)) (by omega)⟩
    have m3 : mulOk 5 ((i : Int).fdiv ((w : Int) + 1)) = true := mulOk_s (by omega) (by omega)
    have r3 : 0 ≤ (b : Int).fdiv 2 ∧ (b : Int).fdiv 2 ≤ 3 := by
      rw [Int.fdiv_eq_ediv_of_nonneg _ (by omega)]
      omega
    simp [modD_int (i := (i : Int)) (j := (w : Int) + 1) (by omega), mulD_int m2, mulD_int m3, fdivD_int dv, fdivD_int dv2]
    refine wp_call (draw_wp (by omega) (by omega) ok) ?_
    rintro _ s1 ⟨dx, rfl, hdx, ok1⟩
    simp [fdivD_int dv2, fdivD_int dv, mulD_int m3]
    refine wp_call (draw_wp (by omega) (by omega) ok1) ?_
    rintro _ s2 ⟨dy, rfl, hdy, ok2⟩
    generalize hX : 5 * (i : Int).fmod ((w : Int) + 1) + dx - (b : Int).fdiv 2 = X
    generalize hY : 5 * (i : Int).fdiv ((w : Int) + 1) + dy - (b : Int).fdiv 2 = Y
    have m4 : mulOk ((sl : Int) - 2) Y = true := mulOk_s (by omega) (by omega)
    have hb : (((sl : Int) - 2) * Y).natAbs ≤ 2 * 65 := by
      rw [Int.natAbs_mul]
      exact Nat.mul_le_mul (by omega) (by omega)
    simp [fdivD_int dv2, hY]
    rw [wpS_app (l := ps) (by simp)]
    simp [mulD_int m4]
    rw [kApp_ok (by omega)]
    simp
    show I _ _ _
    rw [hI]
    refine ⟨ok2, _, _, _, _, ?_, ?_, rfl⟩
    · rw [List.length_append, hl]; rfl
    intro d hd
    rcases List.mem_append.mp hd with hd | hd
    · exact (hp d hd)
    · simp at hd
      subst hd
      exact lit_pt (by omega) (by omega)
  · intro ρ s hi
    rw [hI] at hi
    obtain ⟨ok, ps, x, y, z, hl, hp, rfl⟩ := hi
    rw [rangeL_len] at hl
    simp
    rw [rng1_nat (by omega)]
    simp
    obtain ⟨J, hJ⟩ : ∃ J : Slot → Nat → PEnv → Dl → Prop, J = fun a i ρ s => OkS s ∧ ∃ ts x y z b' c d e f, ts.length = 2 * i ∧ (∀ d ∈ ts, TriD ps.length d) ∧ (∀ d ∈ ts, TriE (latE w ps.length) d) ∧ ρ = [.im .deal, .im (.int w), .im (.int h), .im (.int b), .im (.int (sl - 2)), .im (.lst ps), .im (.lst ts), x, y, z, a, b', c, d, e, f] := ⟨_, rfl⟩
    refine for_inv (fun i ρ s => ∃ a, J a (w * i) ρ s) (by rw [hJ]; exact ⟨_, ok, [], _, _, _, _, _, _, _, _, rfl, by simp, by simp, rfl⟩) ?_ ?_
    · intro r d ρ s hd hi
      obtain ⟨a, hi⟩ := hi
      rw [hJ] at hi
      obtain ⟨ok, ts, x, y, z, b', c, d, e, f, lt, ht, te, rfl⟩ := hi
      obtain ⟨hr, rfl⟩ := rangeL_get hd
      simp
      rw [rng1_nat (by omega)]
      simp
      refine for_inv (fun j => J (.im (.int r)) (w * r + j)) (by rw [hJ]; exact ⟨ok, _, _, _, _, _, _, _, _, _, lt, ht, te, rfl⟩) ?_ ?_
      · intro p d ρ s hd hi
        rw [hJ] at hi
        obtain ⟨ok, ts, x, y, z, b', c, d, e, f, lt, ht, te, rfl⟩ := hi
        obtain ⟨hp, rfl⟩ := rangeL_get hd
        have mr : mulOk (r : Int) ((w : Int) + 1) = true := mulOk_s (by omega) (by omega)
        have q1 : r * (w + 1) + (w + 1) ≤ h * (w + 1) := by
          have := Nat.mul_le_mul_right (w + 1) (show r + 1 ≤ h by omega)
          rw [Nat.add_mul] at this
          omega
        have q2 : h * (w + 1) + (w + 1) = ps.length := by rw [hl, Nat.mul_comm (w + 1), Nat.add_mul]; omega
        have q3 : w * r + w ≤ w * h := by
          have := Nat.mul_le_mul_left w (show r + 1 ≤ h by omega)
          rw [Nat.mul_add] at this
          omega
        have l2 : w * h ≤ 6 := Nat.mul_le_mul hw hh
        have ea : (r : Int) * ((w : Int) + 1) + p = ((r * (w + 1) + p : Nat) : Int) := by simp
        generalize hA : r * (w + 1) + p = A at ea
        simp [mulD_int mr, ea]
        refine wp_call (draw_wp (by omega) (by omega) ok) ?_
        rintro _ s3 ⟨t, rfl, ht2, ok3⟩
        simp
        have tri : ∀ a b c : Nat, a < ps.length → b < ps.length → c < ps.length → ∀ x y z : Int, x = a → y = b → z = c → TriD ps.length (.tup false [.int x, .int y, .int z]) := fun a b c h1 h2 h3 x y z e1 e2 e3 => ⟨false, a, b, c, by rw [e1, e2, e3], h1, h2, h3⟩
        have trE : ∀ (a b c : Nat) (x y z : Int), x = a → y = b → z = c → inE (latE w ps.length) a b → inE (latE w ps.length) b c → inE (latE w ps.length) c a → TriE (latE w ps.length) (.tup false [.int x, .int y, .int z]) := fun a b c x y z e1 e2 e3 h1 h2 h3 => ⟨false, a, b, c, by rw [e1, e2, e3], h1, h2, h3⟩
        refine kIf_d (fun h0 => ?_) (fun h0 => ?_)
        all_goals
          simp
          rw [addD_ll (by simp; omega)]
          simp
          show J _ _ _ _
          rw [hJ]
          refine ⟨ok3, _, _, _, _, _, _, _, _, _, ?_, ?_, ?_, rfl⟩
          · simp [lt]; omega
          · intro d hd
            rcases List.mem_append.mp hd with hd | hd
            · exact ht d hd
            · simp only [List.mem_cons, List.not_mem_nil, or_false] at hd
              rcases hd with rfl | rfl
              · first | exact tri A (A + 1) (A + w + 2) (by omega) (by omega) (by omega) _ _ _ (by omega) (by omega) (by omega) | exact tri A (A + 1) (A + w + 1) (by omega) (by omega) (by omega) _ _ _ (by omega) (by omega) (by omega)
              · first | exact tri A (A + w + 2) (A + w + 1) (by omega) (by omega) (by omega) _ _ _ (by omega) (by omega) (by omega) | exact tri (A + 1) (A + w + 2) (A + w + 1) (by omega) (by omega) (by omega) _ _ _ (by omega) (by omega) (by omega)
          · intro d hd
            rcases List.mem_append.mp hd with hd | hd
            · exact te d hd
            · simp only [List.mem_cons, List.not_mem_nil, or_false] at hd
              rcases hd with rfl | rfl
              · first | exact trE A (A + 1) (A + w + 2) _ _ _ (by omega) (by omega) (by omega) (latE_in (by omega) (by omega) (by omega) (by omega)) (latE_in (by omega) (by omega) (by omega) (by omega)) (latE_in (by omega) (by omega) (by omega) (by omega)) | exact trE A (A + 1) (A + w + 1) _ _ _ (by omega) (by omega) (by omega) (latE_in (by omega) (by omega) (by omega) (by omega)) (latE_in (by omega) (by omega) (by omega) (by omega)) (latE_in (by omega) (by omega) (by omega) (by omega))
              · first | exact trE A (A + w + 2) (A + w + 1) _ _ _ (by omega) (by omega) (by omega) (latE_in (by omega) (by omega) (by omega) (by omega)) (latE_in (by omega) (by omega) (by omega) (by omega)) (latE_in (by omega) (by omega) (by omega) (by omega)) | exact trE (A + 1) (A + w + 2) (A + w + 1) _ _ _ (by omega) (by omega) (by omega) (latE_in (by omega) (by omega) (by omega) (by omega)) (latE_in (by omega) (by omega) (by omega) (by omega)) (latE_in (by omega) (by omega) (by omega) (by omega))
      · intro ρ s hi
        rw [rangeL_len] at hi
        rw [hJ] at hi
        exact ⟨.im (.int r), by rw [hJ]; exact hi⟩
    · intro ρ s hi
      rw [rangeL_len] at hi
      obtain ⟨a, hi⟩ := hi
      rw [hJ] at hi
      obtain ⟨ok, ts, x, y, z, b', c, d, e, f, lt, ht, te, rfl⟩ := hi
      simp
      have l2 : w * h ≤ 6 := Nat.mul_le_mul hw hh
      have l3 : 0 < w * h := Nat.mul_pos hw0 hh0
      exact ⟨false, ps, ts, rfl, ⟨hp, ht, by omega, by omega, by omega, latE w ps.length, by rw [hl]; exact latE_len hw0 hw hh0 hh, te⟩, ok⟩
end LF
end
section
set_option Elab.async false
set_option linter.all false
set_option maxRecDepth 10000
set_option pp.maxSteps 3000
namespace LF
open PL
/-- a dict of ways -/
def WayD (m n : Nat) (l : List (D × D)) : Prop := l.length ≤ n ∧ ∀ p ∈ l, ∃ a b t : Nat, p = (.tup false [.int a, .int b], .int t) ∧ t < m
theorem WayD.put {m n : Nat} {l : List (D × D)} (h : WayD m n l) {a b t : Nat} (ht : t < m) : WayD m (n + 1) (putD l (.tup false [.int a, .int b]) (.int t)) := by
  refine ⟨Nat.le_trans (putD_len _ _ _) (by have := h.1; omega), fun p hp => ?_⟩
  rcases mem_putD hp with hp | ⟨e2, e1 | ⟨q, hq, e1⟩⟩
  · exact h.2 p hp
  · exact ⟨a, b, t, by rw [← e1, ← e2], ht⟩
  · obtain ⟨a', b', t', e, _⟩ := h.2 q hq
    refine ⟨a', b', t, ?_, ht⟩
    subst e
    exact Prod.ext e1.symm e2
theorem ways_wp {n : Nat} {ts : List D} (ht : ∀ d ∈ ts, TriD n d) (hl : ts.length ≤ 200) {s : Dl} : wp (F__law_ways [.lst ts] s) (fun r s' => s' = s ∧ ∃ l, r = .dic true l ∧ WayD ts.length (3 * ts.length) l) := by
  unfold F__law_ways
  refine run_wp ?_
  unfold n__law_ways
  simp
  obtain ⟨I, hI⟩ : ∃ I : Nat → PEnv → Dl → Prop, I = fun i ρ s' => s' = s ∧ ∃ l a b c d e f, WayD ts.length (3 * i) l ∧ ρ = [.im (.lst ts), .md true l, a, b, c, d, e, f] := ⟨_, rfl⟩
  refine for_inv I (by rw [hI]; exact ⟨rfl, [], _, _, _, _, _, _, ⟨by simp, by simp⟩, rfl⟩) ?_ ?_
  · intro i d ρ s' hd hi
    rw [hI] at hi
    obtain ⟨rfl, l, a', b', c', d', e', f', hw, rfl⟩ := hi
    obtain ⟨x, hx, rfl⟩ := enum_get hd
    have hi2 : i < ts.length := by
      rcases Nat.lt_or_ge i ts.length with h | h
      · exact h
      · rw [List.getElem?_eq_none h] at hx; cases hx
    obtain ⟨k, a, b, c, rfl, ha, hb, hc⟩ := ht x (List.mem_of_getElem? hx)
    simp
    obtain ⟨J, hJ⟩ : ∃ J : Nat → PEnv → Dl → Prop, J = fun j ρ s2 => s2 = s' ∧ ∃ l f, WayD ts.length (3 * i + j) l ∧ ρ = [.im (.lst ts), .md true l, .im (.int i), .im (.tup k [.int a, .int b, .int c]), .im (.int a), .im (.int b), .im (.int c), f] := ⟨_, rfl⟩
    refine for_inv J (by rw [hJ]; exact ⟨rfl, l, _, hw, rfl⟩) ?_ ?_
    · intro j d ρ s2 hd hi
      rw [hJ] at hi
      obtain ⟨rfl, l, f, hw, rfl⟩ := hi
      obtain ⟨u, v, rfl⟩ : ∃ u v : Nat, d = .tup false [.int u, .int v] := by
        have := List.mem_of_getElem? hd
        simp at this
        rcases this with rfl | rfl | rfl
        · exact ⟨_, _, rfl⟩
        · exact ⟨_, _, rfl⟩
        · exact ⟨_, _, rfl⟩
      have hj : j < 3 := by
        rcases Nat.lt_or_ge j 3 with h | h
        · exact h
        · rw [List.getElem?_eq_none (by simpa using h)] at hd; cases hd
      simp
      rw [wpS_dput (t := true) (l := l) (by simp)]
      simp
      rw [kPut2_ok (by have := hw.1; omega) (by simp)]
      simp
      show J _ _ _
      rw [hJ]
      exact ⟨rfl, _, _, hw.put hi2, rfl⟩
    · intro ρ s2 hi
      rw [hJ] at hi
      obtain ⟨rfl, l, f, hw, rfl⟩ := hi
      show I _ _ _
      rw [hI]
      exact ⟨rfl, _, _, _, _, _, _, _, hw, rfl⟩
  · intro ρ s' hi
    rw [hI] at hi
    obtain ⟨rfl, l, a', b', c', d', e', f', hw, rfl⟩ := hi
    simp
    simpa using hw
theorem whole_wp {n : Nat} {ts : List D} (ht : ∀ d ∈ ts, TriD n d) (hl : ts.length ≤ 200) {s : Dl} : wp (F__law_whole [.lst ts] s) (fun r s' => s' = s ∧ ∃ b, r = .bl b) := by
  unfold F__law_whole
  refine run_wp ?_
  unfold n__law_whole
  simp
  refine wp_call (ways_wp ht hl) ?_
  rintro _ s1 ⟨rfl, w, rfl, hw⟩
  simp
  have hk : ∀ p ∈ w, IntT 2 p.1 := fun p hp => by
    obtain ⟨a, b, t, rfl, _⟩ := hw.2 p hp
    exact ⟨false, [a, b], rfl, rfl⟩
  rw [sortA_d (by omega) hk]
  simp
  obtain ⟨I, hI⟩ : ∃ I : Nat → PEnv → Dl → Prop, I = fun i ρ s2 => s2 = s1 ∧ ∃ l a b c d e f g h j k, l.length ≤ i ∧ ρ = [.im (.lst ts), .im (.dic true w), .md false l, a, b, c, d, e, f, g, h, j, k] := ⟨_, rfl⟩
  refine for_inv I (by rw [hI]; exact ⟨rfl, [], _, _, _, _, _, _, _, _, _, _, by simp, rfl⟩) ?_ ?_
  · intro i d ρ s' hd hi
    rw [hI] at hi
    obtain ⟨rfl, l, a', b', c', d', e', f', g', h', j', k', hl2, rfl⟩ := hi
    have hi2 : i < 3 * ts.length := by
      rcases Nat.lt_or_ge i (3 * ts.length) with h | h
      · exact h
      · rw [List.getElem?_eq_none (by simp; have := hw.1; omega)] at hd; cases hd
    have hm := List.mem_of_getElem? hd
    rw [sortL_mem] at hm
    obtain ⟨p, hp, rfl⟩ := List.mem_map.mp hm
    obtain ⟨a, b, t, rfl, _⟩ := hw.2 p hp
    simp
    refine kIf_b (fun h0 => ?_) (fun h0 => ?_)
    · simp
      refine kIf_b (fun h0 => ?_) (fun h0 => ?_)
      · simp
      · simp
        rw [wpS_dput (t := false) (l := l) (by simp)]
        simp
        rw [kPut2_ok (by omega) (by simp)]
        simp
        show I _ _ _
        rw [hI]
        exact ⟨rfl, _, _, _, _, _, _, _, _, _, _, _, Nat.le_trans (putD_len _ _ _) (by omega), rfl⟩
    · simp
      show I _ _ _
      rw [hI]
      exact ⟨rfl, _, _, _, _, _, _, _, _, _, _, _, by omega, rfl⟩
  intro ρ s' hi
  rw [hI] at hi
  obtain ⟨rfl, l, a', b', c', d', e', f', g', h', j', k', hl2, rfl⟩ := hi
  simp
  rw [rng1_nat (by omega)]
  simp
  obtain ⟨J, hJ⟩ : ∃ J : Nat → PEnv → Dl → Prop, J = fun i ρ s2 => s2 = s' ∧ ∃ x l m a b e f g h j k, (∀ d ∈ m, ∃ t : Nat, d = .int t ∧ t < ts.length) ∧ m.length ≤ i + 1 ∧ l.length ≤ i + 1 ∧ ρ = [.im (.lst ts), .im (.dic true w), x, a, b, .md false l, .mu m, e, f, g, h, j, k] := ⟨_, rfl⟩
  rcases Nat.eq_zero_or_pos ts.length with h0 | h0
  · rw [h0]
    refine for_inv (fun _ ρ s2 => s2 = s') rfl ?_ ?_
    · intro i d ρ s2 hd _
      simp [rangeL] at hd
    · rintro ρ s2 rfl
      simp
  refine for_inv (fun i => J (3 * i)) (by rw [hJ]; exact ⟨rfl, _, _, _, _, _, _, _, _, _, _, _, fun d hd => ⟨0, by simpa using hd, h0⟩, by simp, by simp, rfl⟩) ?_ ?_
  · intro i d ρ s2 hd hi
    rw [hJ] at hi
    obtain ⟨rfl, x, l, m, a, b, e, f, g, h, j, k, hm, lm, ll, rfl⟩ := hi
    obtain ⟨hi, rfl⟩ := rangeL_get hd
    simp
    refine kIf_d (fun q => ?_) (fun q => ?_)
    · simp
    · have q : i < m.length := by omega
      have em : m[i]? = some m[i] := List.getElem?_eq_getElem q
      obtain ⟨t, et, ht2⟩ := hm _ (List.getElem_mem q)
      rw [et] at em
      have ets : ts[t]? = some ts[t] := List.getElem?_eq_getElem ht2
      obtain ⟨kk, a, b, c, e3, ha, hb, hc⟩ := ht _ (List.getElem_mem ht2)
      rw [e3] at ets
      simp [em, ets]
      refine for_inv (fun q => J (3 * i + q)) (by rw [hJ]; exact ⟨rfl, _, _, _, _, _, _, _, _, _, _, _, hm, lm, ll, rfl⟩) ?_ ?_
      · intro q d ρ s2 hd hi
        rw [hJ] at hi
        obtain ⟨rfl, x, l, m, a', b', e, f, g, h, j, k, hm, lm, ll, rfl⟩ := hi
        obtain ⟨u, v, rfl⟩ : ∃ u v : Nat, d = .tup false [.int u, .int v] := by
          have := List.mem_of_getElem? hd
          simp at this
          rcases this with rfl | rfl | rfl
          · exact ⟨_, _, rfl⟩
          · exact ⟨_, _, rfl⟩
          · exact ⟨_, _, rfl⟩
        have hq : q < 3 := by
          rcases Nat.lt_or_ge q 3 with h | h
          · exact h
          · rw [List.getElem?_eq_none (by simpa using h)] at hd; cases hd
        simp
        have hz : ∃ z : Int, (findD w (.inr [.inl (u : Int), .inl (v : Int)])).getD (.int (-1)) = .int z ∧ (0 ≤ z → ∃ t : Nat, z = t ∧ t < ts.length) := by
          cases e : findD w (.inr [.inl (u : Int), .inl (v : Int)]) with
          | none => exact ⟨-1, rfl, by omega⟩
          | some y =>
            obtain ⟨p, hp, e2, _⟩ := findD_mem e
            obtain ⟨a, b, t, rfl, h⟩ := hw.2 p hp
            exact ⟨t, e2.symm, fun _ => ⟨t, rfl, h⟩⟩
        obtain ⟨z, ez, hz⟩ := hz
        rw [ez]
        simp
        by_cases z0 : 0 ≤ z
        · obtain ⟨t, rfl, ht2⟩ := hz z0
          simp
          refine kIf_b (fun h0 => ?_) (fun h0 => ?_)
          · simp
            rw [wpS_dput (t := false) (l := l) (by simp)]
            simp
            rw [kPut2_ok (by omega) (by simp)]
            simp
            rw [wpS_app (l := m) (by simp)]
            simp
            rw [kApp_ok (by omega)]
            simp
            show J _ _ _
            rw [hJ]
            refine ⟨rfl, _, _, _, _, _, _, _, _, _, _, _, ?_, ?_, Nat.le_trans (putD_len _ _ _) (by omega), rfl⟩
            · intro d hd
              rcases List.mem_append.mp hd with hd | hd
              · exact hm d hd
              · simp at hd
                exact ⟨t, hd, ht2⟩
            · simp; omega
          · simp
            show J _ _ _
            rw [hJ]
            exact ⟨rfl, _, _, _, _, _, _, _, _, _, _, _, hm, by omega, by omega, rfl⟩
        · simp [z0]
          show J _ _ _
          rw [hJ]
          exact ⟨rfl, _, _, _, _, _, _, _, _, _, _, _, hm, by omega, by omega, rfl⟩
      · intro ρ s2 hi
        rw [hJ] at hi
        show J _ _ _
        rw [hJ]
        exact hi
  · intro ρ s2 hi
    rw [hJ] at hi
    obtain ⟨rfl, x, l, m, a, b, e, f, g, h, j, k, hm, lm, ll, rfl⟩ := hi
    simp
theorem cut_wp {B np nt nE : Nat} {ps ts : List D} (hm : MeshD B np nt nE ps ts) (hn : nt ≤ 200) {k : Nat} (hk : k < 100) {s : Dl} (ok : OkS s) : wp (F__law_cut [.deal, .lst ts, .int k] s) (fun r s' => OkS s' ∧ ∃ us, r = .lst us ∧ MeshD B np nt nE ps us) := by
  unfold F__law_cut
  refine run_wp ?_
  unfold n__law_cut
  simp
  rw [rng1_nat (by omega)]
  simp
  obtain ⟨I, hI⟩ : ∃ I : PEnv → Dl → Prop, I = fun ρ s => OkS s ∧ ∃ us a b c, MeshD B np nt nE ps us ∧ ρ = [.im .deal, .im (.lst us), .im (.int k), a, b, c] := ⟨_, rfl⟩
  refine for_all I (by rw [hI]; exact ⟨ok, _, _, _, _, hm, rfl⟩) ?_ ?_
  · intro d hd ρ s hi
    rw [hI] at hi
    obtain ⟨ok, us, a, b, c, hm, rfl⟩ := hi
    have hne := hm.ne
    have hlt := hm.lt
    simp
    refine wp_call (draw_wp (by omega) (by omega) ok) ?_
    rintro _ s1 ⟨i, rfl, hi, ok1⟩
    have e1 : (i : Int) + 1 = ((i + 1 : Nat) : Int) := by simp
    simp
    rw [e1, cut_fromN, addD_ll (by simp; omega)]
    simp
    have hsub : ∀ d ∈ us.take i ++ us.drop (i + 1), d ∈ us := fun d hd => by
      rcases List.mem_append.mp hd with hd | hd
      · exact List.mem_of_mem_take hd
      · exact List.mem_of_mem_drop hd
    have hlen : (us.take i ++ us.drop (i + 1)).length = us.length - 1 := by simp; omega
    generalize us.take i ++ us.drop (i + 1) = vs at hsub hlen
    have pl : ∀ d ∈ vs, TriD ps.length d := fun d hd => hm.tr d (hsub d hd)
    have pv : ∀ d ∈ vs, Pl 1 d := fun d hd => by
      obtain ⟨k, a, b, c, rfl, _⟩ := pl d hd
      exact .tup k fun d hd => by
        simp at hd
        rcases hd with rfl | rfl | rfl
        all_goals exact .int 0 _
    rw [neD_nil pv (by omega)]
    simp
    by_cases h0 : vs = []
    · simp [h0]
      show I _ _
      rw [hI]
      exact ⟨ok1, _, _, _, _, hm, rfl⟩
    · simp [h0]
      refine wp_call (whole_wp pl (by omega)) ?_
      rintro _ s2 ⟨rfl, b, rfl⟩
      simp
      refine kIf_b (fun _ => ?_) (fun _ => ?_)
      · simp
        show I _ _
        rw [hI]
        exact ⟨ok1, _, _, _, _, ⟨hm.pt, pl, hm.lp, by omega, List.length_pos_iff.mpr h0, hm.eb.sub hsub⟩, rfl⟩
      · simp
        show I _ _
        rw [hI]
        exact ⟨ok1, _, _, _, _, hm, rfl⟩
  · intro ρ s hi
    rw [hI] at hi
    obtain ⟨ok, us, a, b, c, hm, rfl⟩ := hi
    simp
    exact ⟨ok, hm⟩
end LF
end
section
set_option Elab.async false
set_option linter.all false
set_option maxRecDepth 10000
set_option pp.maxSteps 3000
namespace LF
open PL
/-- whether a number stands in a triangle -/
def inTri (i : Int) : D → Bool
  | .tup _ l => l.any fun d => match d with
    | .int j => decide (j = i)
    | _ => false
  | _ => false
theorem inTri_t3 {i a b c : Int} {k : Bool} : inTri i (.tup k [.int a, .int b, .int c]) = decide (i ∈ [a, b, c]) := by
  show (decide (a = i) || (decide (b = i) || (decide (c = i) || false))) = _
  rw [Bool.eq_iff_iff]
  simp only [List.any_cons, List.any_nil, List.mem_cons, List.not_mem_nil, Bool.or_eq_true, decide_eq_true_eq, Bool.false_eq_true, or_false, @eq_comm _ i]
/-- edges with other numbers -/
def ren (f : Nat → Nat) (es : List (Nat × Nat)) : List (Nat × Nat) := es.map fun e => (min (f e.1) (f e.2), max (f e.1) (f e.2))
theorem ren_in (f : Nat → Nat) {es : List (Nat × Nat)} {a b : Nat} (h : inE es a b) : inE (ren f es) (f a) (f b) := by
  unfold inE ren at *
  refine List.mem_map.mpr ⟨_, h, ?_⟩
  rcases Nat.le_total a b with c | c
  · rw [Nat.min_eq_left c, Nat.max_eq_right c]
  · rw [Nat.min_eq_right c, Nat.max_eq_left c, Nat.min_comm, Nat.max_comm]
def numAt (l : List (D × D)) (a : Nat) : Nat := match findD l (.inl (.inl (a : Int))) with
  | some (.int t) => t.toNat
  | _ => 0
theorem numAt_of {l : List (D × D)} {a t : Nat} (h : findD l (.inl (.inl (a : Int))) = some (.int (t : Int))) : numAt l a = t := by
  unfold numAt
  rw [h]
  simp
theorem ren_tri {l : List (D × D)} {es : List (Nat × Nat)} {k k' : Bool} {a b c a' b' c' : Nat} (ea : findD l (.inl (.inl (a : Int))) = some (.int (a' : Int))) (eb : findD l (.inl (.inl (b : Int))) = some (.int (b' : Int))) (ec : findD l (.inl (.inl (c : Int))) = some (.int (c' : Int)))
    (h : TriE es (.tup k [.int a, .int b, .int c])) : TriE (ren (numAt l) es) (.tup k' [.int a', .int b', .int c']) := by
  obtain ⟨h1, h2, h3⟩ := h.get
  have h1 := ren_in (numAt l) h1
  have h2 := ren_in (numAt l) h2
  have h3 := ren_in (numAt l) h3
  rw [numAt_of ea, numAt_of eb] at h1
  rw [numAt_of eb, numAt_of ec] at h2
  rw [numAt_of ec, numAt_of ea] at h3
  exact ⟨k', a', b', c', rfl, h1, h2, h3⟩
theorem kept_wp {B np nt nE : Nat} {ps ts : List D} (hm : MeshD B np nt nE ps ts) (hn : nt ≤ 200) (hp : np ≤ 200) {s : Dl} (ok : OkS s) : wp (F__law_kept [.lst ps, .lst ts] s) (IsMesh B np nt nE) := by
  unfold F__law_kept
  refine run_wp ?_
  unfold n__law_kept
  have hlt := hm.lt
  have hlp := hm.lp
  simp
  rw [rng1_nat (by omega)]
  simp
  obtain ⟨I, hI⟩ : ∃ I : Nat → PEnv → Dl → Prop, I = fun i ρ s => OkS s ∧ ∃ l qs a, l.length ≤ i ∧ qs.length ≤ i ∧ (∀ d ∈ qs, PtD B d) ∧ (∀ j : Nat, j < i → (∃ t ∈ ts, inTri j t = true) → ∃ t : Nat, findD l (.inl (.inl (j : Int))) = some (.int t) ∧ t < qs.length) ∧ ρ = [.im (.lst ps), .im (.lst ts), .md false l, .mu qs, a, .un, .un, .un, .un] := ⟨_, rfl⟩
  refine for_inv I (by rw [hI]; exact ⟨ok, [], [], _, by simp, by simp, by simp, by simp, rfl⟩) ?_ ?_
  · intro i d ρ s hd hi
    rw [hI] at hi
    obtain ⟨ok, l, qs, a, ll, lq, hq, hk, rfl⟩ := hi
    obtain ⟨hi, rfl⟩ := rangeL_get hd
    simp
    refine kB_map (fun d => if inTri i d = true then some d else none) (by omega) (by rfl) ?_ ?_
    · intro d hd s
      obtain ⟨k, a, b, c, rfl, _⟩ := hm.tr d hd
      rw [inTri_t3]
      simp
      refine kCt_b (fun h => ?_) (fun h => ?_)
      · simp at h
        simp [h]
      · simp at h
        simp [h]
    have pf : ∀ d ∈ ts.filterMap (fun d => if inTri i d = true then some d else none), Pl 1 d := by
      intro d hd
      obtain ⟨t, ht, e⟩ := List.mem_filterMap.mp hd
      split at e
      · cases e
        obtain ⟨k, a, b, c, rfl, _⟩ := hm.tr _ ht
        exact .tup k (by simp; exact ⟨.int 0 _, .int 0 _, .int 0 _⟩)
      · cases e
    have ei : ts.filterMap (fun d => if inTri i d = true then some d else none) = [] ↔ ¬ ∃ t ∈ ts, inTri i t = true := by
      rw [List.filterMap_eq_nil_iff]
      constructor
      · rintro h ⟨t, ht, e⟩
        have := h t ht
        rw [if_pos e] at this
        cases this
      · intro h t ht
        rw [if_neg fun e => h ⟨t, ht, e⟩]
    generalize ts.filterMap (fun d => if inTri i d = true then some d else none) = fs at pf ei
    rw [neD_nil pf (by omega)]
    simp
    by_cases hf : fs = []
    · simp [hf]
      show I _ _ _
      rw [hI]
      refine ⟨ok, l, qs, _, by omega, by omega, hq, fun j hj q => ?_, rfl⟩
      rcases Nat.lt_succ_iff_lt_or_eq.mp hj with hj | rfl
      · exact hk j hj q
      · exact absurd q (ei.mp hf)
    · have eg : ps[i]? = some ps[i] := List.getElem?_eq_getElem hi
      simp [hf]
      rw [wpS_dput (t := false) (l := l) (by simp)]
      simp
      rw [kPut2_ok (by omega) (by simp)]
      simp
      rw [wpS_app (l := qs) (by simp)]
      simp [eg]
      rw [kApp_ok (by omega)]
      simp
      show I _ _ _
      rw [hI]
      refine ⟨ok, _, _, _, Nat.le_trans (putD_len _ _ _) (by omega), by simp; omega, ?_, fun j hj q => ?_, rfl⟩
      · intro d hd
        rcases List.mem_append.mp hd with hd | hd
        · exact hq d hd
        · simp at hd
          subst hd
          exact hm.pt _ (List.getElem_mem hi)
      · rw [findD_put_int]
        rcases Nat.lt_succ_iff_lt_or_eq.mp hj with hj | rfl
        · rw [if_neg (by omega)]
          obtain ⟨t, e, ht⟩ := hk j hj q
          exact ⟨t, e, by simp; omega⟩
        · rw [if_pos rfl]
          exact ⟨_, rfl, by simp⟩
  · intro ρ s hi
    rw [hI] at hi
    obtain ⟨ok, l, qs, a, ll, lq, hq, hk, rfl⟩ := hi
    rw [rangeL_len] at *
    simp
    obtain ⟨es, les, hes⟩ := hm.eb
    refine kB_all OkS (fun _ z => TriD qs.length z ∧ TriE (ren (numAt l) es) z) (by omega) (by rfl) ok ?_ ?_
    · intro d hd s ok
      obtain ⟨k, a, b, c, rfl, ha, hb, hc⟩ := hm.tr d hd
      obtain ⟨a', ea, ha'⟩ := hk a ha ⟨_, hd, by rw [inTri_t3]; simp⟩
      obtain ⟨b', eb, hb'⟩ := hk b hb ⟨_, hd, by rw [inTri_t3]; simp⟩
      obtain ⟨c', ec, hc'⟩ := hk c hc ⟨_, hd, by rw [inTri_t3]; simp⟩
      simp [ea, eb, ec]
      exact ⟨⟨⟨false, a', b', c', rfl, ha', hb', hc'⟩, ren_tri ea eb ec (hes _ hd)⟩, ok⟩
    · intro zs s' ha ok'
      have el := ha.length
      exact ⟨false, qs, zs, rfl, ⟨hq, fun d hd => (ha.mem_right hd).elim fun _ q => q.2.1, by omega, by omega, by have := hm.ne; omega, ren (numAt l) es, by unfold ren; rw [List.length_map]; exact les, fun d hd => (ha.mem_right hd).elim fun _ q => q.2.2⟩, ok'⟩
/-- what is had when a point is put in -/
def putE (n : Nat) (es : List (Nat × Nat)) : List (Nat × Nat) := es ++ (List.range (n + 1)).map fun x => (x, n)
theorem putE_old {n : Nat} {es : List (Nat × Nat)} {a b : Nat} (h : inE es a b) : inE (putE n es) a b := List.mem_append_left _ h
theorem putE_new {n : Nat} {es : List (Nat × Nat)} {x : Nat} (h : x ≤ n) : (x, n) ∈ putE n es := List.mem_append_right _ (List.mem_map.mpr ⟨x, List.mem_range.mpr (by omega), rfl⟩)
theorem putE_in {n : Nat} {es : List (Nat × Nat)} {a b a' b' : Nat} (h : inE es a b) (ha : a' = a ∨ a' = n) (hb : b' = b ∨ b' = n) (la : a ≤ n) (lb : b ≤ n) : inE (putE n es) a' b' := by
  have new1 : ∀ x, x ≤ n → inE (putE n es) n x := fun x hx => by
    unfold inE
    rw [Nat.min_eq_right hx, Nat.max_eq_left hx]
    exact putE_new hx
  have new2 : ∀ x, x ≤ n → inE (putE n es) x n := fun x hx => by
    unfold inE
    rw [Nat.min_eq_left hx, Nat.max_eq_right hx]
    exact putE_new hx
  rcases ha with rfl | rfl
  · rcases hb with rfl | rfl
    · exact putE_old h
    · exact new2 _ la
  · exact new1 _ (by rcases hb with rfl | rfl <;> omega)
def PutR (B bot np nt nE : Nat) (r : D) (s' : Dl) : Prop := OkS s' ∧ ∃ k bot' ps' ts', r = .tup k [.int (bot' : Nat), .lst ps', .lst ts'] ∧ 0 < bot' ∧ bot' ≤ 5 * bot ∧ MeshD (5 * B) (np + 1) (2 * nt + 1) (nE + np + 1) ps' ts'
theorem put_wp {B np nt nE : Nat} {ps ts : List D} (hm : MeshD B np nt nE ps ts) (hn : nt ≤ 200) (hp : np ≤ 200) (hB : B < 2 ^ 20) {bot : Nat} (h0 : 0 < bot) (h1 : bot < 2 ^ 20) {s : Dl} (ok : OkS s) :
    wp (F__law_put [.deal, .int bot, .lst ps, .lst ts] s) (PutR B bot np nt nE) := by
  unfold F__law_put
  refine run_wp ?_
  unfold n__law_put
  have hlt := hm.lt
  have hlp := hm.lp
  have hne := hm.ne
  obtain ⟨es, les, hes⟩ := hm.eb
  simp
  refine wp_call (draw_wp (by omega) (by omega) ok) ?_
  rintro _ s1 ⟨at_, rfl, ha, ok1⟩
  simp
  refine wp_call (draw_wp (by omega) (by omega) ok1) ?_
  rintro _ s2 ⟨t, rfl, ht, ok2⟩
  have ets : ts[at_]? = some ts[at_] := List.getElem?_eq_getElem (by omega)
  obtain ⟨kk, a0, b0, c0, e3, ha0, hb0, hc0⟩ := hm.tr _ (List.getElem_mem (show at_ < ts.length by omega))
  rw [e3] at ets
  obtain ⟨x, y, z, exyz, hxyz⟩ := turn3 (k := kk) (a := .int a0) (b := .int b0) (c := .int c0) (t := t) (by omega)
  obtain ⟨a, b, c, rfl, rfl, rfl, ha, hb, hc⟩ : ∃ a b c : Nat, x = .int a ∧ y = .int b ∧ z = .int c ∧ a < ps.length ∧ b < ps.length ∧ c < ps.length := by
    rcases hxyz with ⟨rfl, rfl, rfl⟩ | ⟨rfl, rfl, rfl⟩ | ⟨rfl, rfl, rfl⟩
    · exact ⟨_, _, _, rfl, rfl, rfl, ha0, hb0, hc0⟩
    · exact ⟨_, _, _, rfl, rfl, rfl, hb0, hc0, ha0⟩
    · exact ⟨_, _, _, rfl, rfl, rfl, hc0, ha0, hb0⟩
  simp [ets, exyz]
  refine wp_call (pick_wp (by simp) (by simp) ok2) ?_
  intro parts s3 ⟨hparts, ok3⟩
  obtain ⟨p, q, r, rfl, hp0, hp1⟩ : ∃ p q r : Nat, parts = .lst [.int p, .int q, .int r] ∧ 0 < p + q + r ∧ p + q + r ≤ 5 := by
    simp at hparts
    rcases hparts with rfl | rfl | rfl | rfl | rfl | rfl
    · exact ⟨1, 1, 1, rfl, by decide, by decide⟩
    · exact ⟨2, 1, 1, rfl, by decide, by decide⟩
    · exact ⟨1, 1, 0, rfl, by decide, by decide⟩
    · exact ⟨1, 2, 0, rfl, by decide, by decide⟩
    · exact ⟨3, 1, 0, rfl, by decide, by decide⟩
    · exact ⟨1, 2, 2, rfl, by decide, by decide⟩
  have ea : ps[a]? = some ps[a] := List.getElem?_eq_getElem ha
  have eb : ps[b]? = some ps[b] := List.getElem?_eq_getElem hb
  have ec : ps[c]? = some ps[c] := List.getElem?_eq_getElem hc
  obtain ⟨k1, x1, y1, e1, hx1, hy1⟩ := hm.pt _ (List.getElem_mem ha)
  obtain ⟨k2, x2, y2, e2, hx2, hy2⟩ := hm.pt _ (List.getElem_mem hb)
  obtain ⟨k3, x3, y3, e3, hx3, hy3⟩ := hm.pt _ (List.getElem_mem hc)
  rw [e1] at ea
  rw [e2] at eb
  rw [e3] at ec
  have mk : ∀ (n : Nat) (v : Int), n ≤ 5 → v.natAbs ≤ B → mulOk n v = true := fun n v h1 h2 => mulOk_s (by omega) (by omega)
  have ab : ∀ (n : Nat) (v : Int), v.natAbs ≤ B → ((n : Int) * v).natAbs ≤ n * B := fun n v h => by
    rw [Int.natAbs_mul, Int.natAbs_natCast]
    exact Nat.mul_le_mul_left _ h
  simp [ea, eb, ec, mulD_int (mk p x1 (by omega) hx1), mulD_int (mk q x2 (by omega) hx2), mulD_int (mk r x3 (by omega) hx3), mulD_int (mk p y1 (by omega) hy1), mulD_int (mk q y2 (by omega) hy2), mulD_int (mk r y3 (by omega) hy3)]
  have hX : ((p : Int) * x1 + q * x2 + r * x3).natAbs ≤ 5 * B := by
    have h1 := ab p x1 hx1; have h2 := ab q x2 hx2; have h3 := ab r x3 hx3
    have h4 : p * B + q * B + r * B ≤ 5 * B := by rw [← Nat.add_mul, ← Nat.add_mul]; exact Nat.mul_le_mul_right _ hp1
    omega
  have hY : ((p : Int) * y1 + q * y2 + r * y3).natAbs ≤ 5 * B := by
    have h1 := ab p y1 hy1; have h2 := ab q y2 hy2; have h3 := ab r y3 hy3
    have h4 : p * B + q * B + r * B ≤ 5 * B := by rw [← Nat.add_mul, ← Nat.add_mul]; exact Nat.mul_le_mul_right _ hp1
    omega
  generalize (p : Int) * x1 + q * x2 + r * x3 = X at hX
  generalize (p : Int) * y1 + q * y2 + r * y3 = Y at hY
  obtain ⟨I, hI⟩ : ∃ I : Nat → PEnv → Dl → Prop, I = fun i ρ s => OkS s ∧ ∃ us d13 d14 d15 d16, us.length ≤ 2 * i + (if at_ < i then 1 else 0) ∧ i ≤ us.length ∧ (∀ d ∈ us, TriD (ps.length + 1) d) ∧ (∀ d ∈ us, TriE (putE ps.length es) d) ∧ ρ = [.im .deal, .im (.int bot), .im (.lst ps), .im (.lst ts), .im (.int at_), .im (.int t), .im (.int a), .im (.int b), .im (.int c), .im (.lst [.int p, .int q, .int r]), .im (.int X), .im (.int Y), .mu us, d13, d14, d15, d16, .un, .un, .un] := ⟨_, rfl⟩
  refine for_inv I (by rw [hI]; exact ⟨ok3, [], _, _, _, _, by simp, by simp, by simp, by simp, rfl⟩) ?_ ?_
  · intro i d ρ s hd hi
    rw [hI] at hi
    obtain ⟨ok, us, d13, d14, d15, d16, lu, lu2, hu, hv, rfl⟩ := hi
    obtain ⟨tr, htr, rfl⟩ := enum_get hd
    have hi : i < ts.length := by
      rcases Nat.lt_or_ge i ts.length with h | h
      · exact h
      · rw [List.getElem?_eq_none h] at htr; cases htr
    have hE := hes _ (List.mem_of_getElem? htr)
    obtain ⟨kk, u, v, w, rfl, h1, h2, h3⟩ := hm.tr _ (List.mem_of_getElem? htr)
    have hE := hE.get
    -- behind the olds
    have fin : ∀ (os : List Int) (x9 : Slot) (Q : Post), x9 = .im (.lst [.int p, .int q, .int r]) → os.length ≤ 3 → (os.length = 3 → i = at_) → wpS (seqM (sIf (mT (mB eqD (getI 15) (mF (fL mN)))) (appM 12 (getI 14)) sNil) (sFor (iSq (getI 15)) (gN 16) (appM 12 (mL (arg1 fun d => lift (tupleO d)) (mC (mF (blkM [18] (iSq (getI 14)) (gN 18) aTrue (mIf (mT (mB eqD (getI 18) (getI 16))) (mL (arg1 lenD) (mC (getI 2) mN)) (getI 18)))) mN)))))
      [.im .deal, .im (.int bot), .im (.lst ps), .im (.lst ts), .im (.int at_), .im (.int t), .im (.int a), .im (.int b), .im (.int c), x9, .im (.int X), .im (.int Y), .mu us, .im (.int i), .im (.tup kk [.int u, .int v, .int w]), .im (.lst (os.map D.int)), d16, .un, .un, .un] s (kLoop (I (i + 1)) Q) := by
      rintro os x9 Q rfl ho ho3
      have po : ∀ d ∈ os.map D.int, Pl 0 d := pl_ints os
      simp
      rw [eqD_nil po (by omega)]
      simp
      have lu3 : us.length ≤ 2 * ts.length + 1 := by split at lu <;> omega
      have q1 : us.length + 2 + (if i = at_ then 1 else 0) ≤ 2 * (i + 1) + (if at_ < i + 1 then 1 else 0 : Nat) := by
        split at lu <;> split <;> split <;> omega
      by_cases o0 : os = []
      · subst o0
        simp
        rw [wpS_app (l := us) (by simp)]
        simp
        rw [kApp_ok (by omega)]
        simp
        refine for_inv (fun _ ρ s' => s' = s ∧ ρ = _) ⟨rfl, rfl⟩ (fun i d ρ s hd _ => by simp at hd) ?_
        rintro ρ s' ⟨rfl, rfl⟩
        show I _ _ _
        rw [hI]
        refine ⟨ok, _, _, _, _, _, ?_, ?_, ?_, ?_, rfl⟩
        · rw [List.length_append]; show us.length + 1 ≤ _; split at q1 <;> omega
        · rw [List.length_append]; show i + 1 ≤ us.length + 1; omega
        · intro d hd
          rcases List.mem_append.mp hd with hd | hd
          · exact hu d hd
          · simp at hd
            subst hd
            exact ⟨kk, u, v, w, rfl, by omega, by omega, by omega⟩
        · intro d hd
          rcases List.mem_append.mp hd with hd | hd
          · exact hv d hd
          · simp at hd
            subst hd
            exact ⟨kk, u, v, w, rfl, putE_old hE.1, putE_old hE.2.1, putE_old hE.2.2⟩
      · simp [o0]
        obtain ⟨J, hJ⟩ : ∃ J : Nat → PEnv → Dl → Prop, J = fun j ρ s' => s' = s ∧ ∃ us' x16, us'.length = us.length + j ∧ (∀ d ∈ us', TriD (ps.length + 1) d) ∧ (∀ d ∈ us', TriE (putE ps.length es) d) ∧ ρ = [.im .deal, .im (.int bot), .im (.lst ps), .im (.lst ts), .im (.int at_), .im (.int t), .im (.int a), .im (.int b), .im (.int c), .im (.lst [.int p, .int q, .int r]), .im (.int X), .im (.int Y), .mu us', .im (.int i), .im (.tup kk [.int u, .int v, .int w]), .im (.lst (os.map D.int)), x16, .un, .un, .un] := ⟨_, rfl⟩
        refine for_inv J (by rw [hJ]; exact ⟨rfl, us, _, rfl, hu, hv, rfl⟩) ?_ ?_
        · intro j d ρ s' hd hi
          rw [hJ] at hi
          obtain ⟨rfl, us', x16, lu', hu', hv', rfl⟩ := hi
          have hj : j < os.length := by
            rcases Nat.lt_or_ge j os.length with h | h
            · exact h
            · rw [List.getElem?_eq_none (by simpa using h)] at hd; cases hd
          obtain ⟨o, rfl⟩ : ∃ o : Int, d = .int o := by
            obtain ⟨o, _, rfl⟩ := List.mem_map.mp (List.mem_of_getElem? hd)
            exact ⟨o, rfl⟩
          simp
          rw [wpS_app (l := us') (by simp)]
          simp
          refine kB_all (fun s2 => s2 = s') (fun d z => ∃ n m : Nat, d = .int n ∧ z = .int m ∧ n < ps.length ∧ (m = n ∨ m = ps.length)) (by simp) (by rfl) rfl ?_ ?_
          · rintro d hd s2 rfl
            obtain ⟨n, rfl, hn⟩ : ∃ n : Nat, d = .int n ∧ n < ps.length := by
              simp at hd
              rcases hd with rfl | rfl | rfl
              · exact ⟨_, rfl, h1⟩
              · exact ⟨_, rfl, h2⟩
              · exact ⟨_, rfl, h3⟩
            simp
            refine wp_ite (fun _ => ?_) (fun _ => ?_)
            · simp only [wp_pure]
              exact ⟨⟨_, rfl, n, by simp, ps.length, by simp, hn, .inr rfl⟩, rfl⟩
            · simp only [wp_pure]
              exact ⟨⟨_, rfl, n, by simp, n, by simp, hn, .inl rfl⟩, rfl⟩
          · rintro zs s2 hz rfl
            have lz := hz.length
            simp at lz
            rw [kApp_ok (by omega)]
            simp
            show J _ _ _
            rw [hJ]
            obtain ⟨z1, z2, z3, rfl⟩ : ∃ z1 z2 z3, zs = [z1, z2, z3] := by
              match zs, lz with
              | [z1, z2, z3], _ => exact ⟨_, _, _, rfl⟩
            cases hz with
            | cons q1 hz =>
            cases hz with
            | cons q2 hz =>
            cases hz with
            | cons q3 hz =>
            obtain ⟨n1, m1, e1, rfl, l1, c1⟩ := q1
            obtain ⟨n2, m2, e2, rfl, l2, c2⟩ := q2
            obtain ⟨n3, m3, e3, rfl, l3, c3⟩ := q3
            injection e1 with e1
            injection e2 with e2
            injection e3 with e3
            obtain rfl : u = n1 := by omega
            obtain rfl : v = n2 := by omega
            obtain rfl : w = n3 := by omega
            refine ⟨rfl, _, _, ?_, ?_, ?_, rfl⟩
            · rw [List.length_append, lu']; rfl
            · intro d hd
              rcases List.mem_append.mp hd with hd | hd
              · exact hu' d hd
              · simp at hd
                subst hd
                exact ⟨false, m1, m2, m3, rfl, by omega, by omega, by omega⟩
            · intro d hd
              rcases List.mem_append.mp hd with hd | hd
              · exact hv' d hd
              · simp at hd
                subst hd
                exact ⟨false, m1, m2, m3, rfl, putE_in hE.1 c1 c2 (by omega) (by omega), putE_in hE.2.1 c2 c3 (by omega) (by omega), putE_in hE.2.2 c3 c1 (by omega) (by omega)⟩
        · intro ρ s' hi
          rw [hJ] at hi
          obtain ⟨rfl, us', x16, lu', hu', hv', rfl⟩ := hi
          have lo := List.length_pos_iff.mpr o0
          rw [List.length_map] at lu'
          show I _ _ _
          rw [hI]
          refine ⟨ok, _, _, _, _, _, ?_, by omega, hu', hv', rfl⟩
          by_cases h3 : os.length = 3
          · rw [if_pos (ho3 h3)] at q1; omega
          · have : os.length ≤ 2 := by omega
            split at q1 <;> omega
    generalize hT : seqM (sIf (mT (mB eqD (getI 15) (mF (fL mN)))) (appM 12 (getI 14)) sNil) (sFor (iSq (getI 15)) (gN 16) (appM 12 (mL (arg1 fun d => lift (tupleO d)) (mC (mF (blkM [18] (iSq (getI 14)) (gN 18) aTrue (mIf (mT (mB eqD (getI 18) (getI 16))) (mL (arg1 lenD) (mC (getI 2) mN)) (getI 18)))) mN)))) = T at fin ⊢
    simp
    by_cases hr : r = 0
    · simp [hr]
      refine wp_iteB (fun hc => ?_) (fun hc => ?_)
      · simp
        refine wp_iteB (fun hc => ?_) (fun hc => ?_)
        · simp
          exact fin [a, b] (.im (.lst [.int p, .int q, .int 0])) _ (by simp [hr]) (by simp) (by simp)
        · simp
          exact fin [] (.im (.lst [.int p, .int q, .int 0])) _ (by simp [hr]) (by simp) (by simp)
      · simp
        exact fin [] (.im (.lst [.int p, .int q, .int 0])) _ (by simp [hr]) (by simp) (by simp)
    · have hr2 : 0 < r := by omega
      simp [hr, hr2]
      refine wp_iteB (fun hc => ?_) (fun hc => ?_)
      · simp
        exact fin [a, b, c] _ _ rfl (by simp) (fun _ => by omega)
      · simp
        exact fin [] _ _ rfl (by simp) (by simp)
  · intro ρ s hi
    rw [hI] at hi
    obtain ⟨ok, us, d13, d14, d15, d16, lu, lu2, hu, hv, rfl⟩ := hi
    rw [enum_len] at lu lu2
    rw [if_pos (by omega)] at lu
    simp
    have m1 : mulOk ((p : Int) + (q + r)) bot = true := mulOk_s (by omega) (by omega)
    simp [mulD_int m1]
    refine kB_all OkS (fun _ z => PtD (5 * B) z) (by omega) (by rfl) ok ?_ ?_
    · intro d hd s ok
      obtain ⟨k, x, y, rfl, hx, hy⟩ := hm.pt d hd
      have m2 : mulOk ((p : Int) + (q + r)) x = true := mulOk_s (by omega) (by omega)
      have m3 : mulOk ((p : Int) + (q + r)) y = true := mulOk_s (by omega) (by omega)
      have a2 := ab (p + (q + r)) x hx
      have a3 := ab (p + (q + r)) y hy
      have a4 : (p + (q + r)) * B ≤ 5 * B := Nat.mul_le_mul_right _ (by omega)
      simp [mulD_int m2, mulD_int m3]
      simp at a2 a3
      exact ⟨lit_pt (by omega) (by omega), ok⟩
    · intro zs s' hz ok'
      have lz := hz.length
      rw [addD_ll (by simp; omega)]
      simp
      have e : ((p : Int) + (q + r)) * bot = (((p + (q + r)) * bot : Nat) : Int) := by simp
      refine ⟨ok', false, (p + (q + r)) * bot, _, _, by rw [e], Nat.mul_pos (by omega) h0, Nat.mul_le_mul_right _ (by omega), ?_, ?_, ?_, ?_, ?_, putE ps.length es, by unfold putE; rw [List.length_append, List.length_map, List.length_range]; omega, hv⟩
      · intro d hd
        rcases List.mem_append.mp hd with hd | hd
        · exact (hz.mem_right hd).elim fun _ q => q.2
        · simp at hd
          subst hd
          exact lit_pt hX hY
      · rw [List.length_append]
        intro d hd
        have := hu d hd
        rw [lz] at this
        exact this
      · rw [List.length_append]; show zs.length + 1 ≤ _; omega
      · omega
      · omega
end LF
end
section
set_option Elab.async false
set_option linter.all false
set_option maxRecDepth 10000
set_option pp.maxSteps 3000
namespace LF
open PL
theorem lrg_nat {n : Nat} (h : n ≤ 1000) : lrgO (.int (n : Int)) = some (rangeL 0 n) := by
  show (if 0 ≤ (n : Int) ∧ (n : Int) ≤ 16777216 then some (rangeL 0 (n : Int).toNat) else none) = _
  rw [if_pos ⟨by omega, by omega⟩]
  rfl
theorem popAt_nat {l : List D} {r : Nat} (h : r < l.length) (hl : l.length ≤ 1000) : popAtN l (.int (r : Int)) = some r := by
  unfold popAtN asIO
  rw [Option.bind_some, if_pos ⟨by omega, by omega⟩]
  unfold PySem.seqIndex?
  simp [h]
  omega
theorem mem_rangeL {n : Nat} {d : D} : d ∈ rangeL 0 n ↔ ∃ i : Nat, i < n ∧ d = .int i := by
  unfold rangeL
  simp only [List.mem_map, List.mem_range, Int.zero_add]
  exact ⟨fun ⟨i, h, e⟩ => ⟨i, h, e.symm⟩, fun ⟨i, h, e⟩ => ⟨i, h, e.symm⟩⟩
theorem merge_find {n : Nat} {k : L2.Key} : ∀ (l : List (L2.Key × D)) (r : List (D × D)), (∀ p ∈ l, ∃ t : Nat, p.2 = .int t ∧ t < n) → ((∃ p ∈ l, p.1 = k) ∨ ∃ t : Nat, findD r (.inl k) = some (.int t) ∧ t < n) →
    ∃ t : Nat, findD (l.foldl (fun r p => putD r (keyD p.1) p.2) r) (.inl k) = some (.int t) ∧ t < n := by
  intro l
  induction l with
  | nil =>
    intro r _ h
    rcases h with ⟨p, hp, _⟩ | h
    · cases hp
    · exact h
  | cons p l ih =>
    intro r hv h
    rw [List.foldl_cons]
    refine ih _ (fun q hq => hv q (by simp [hq])) ?_
    have dk : dkey (keyD p.1) = some (.inl p.1) := by cases p.1 <;> rfl
    by_cases e : p.1 = k
    · refine .inr ?_
      rw [findD_put dk, if_pos (by rw [e])]
      obtain ⟨t, e, h⟩ := hv p (by simp)
      exact ⟨t, by rw [e], h⟩
    · rcases h with ⟨q, hq, eq⟩ | h
      · rcases List.mem_cons.mp hq with rfl | hq
        · exact absurd eq e
        · exact .inl ⟨q, hq, eq⟩
      · refine .inr ?_
        rw [findD_put dk, if_neg (fun z => e (Sum.inl.inj z).symm)]
        exact h
def swapD : D → Option D
  | .tup _ [a, b] => some (.tup false [b, a])
  | _ => none
theorem swap_enum (l : List D) : (enumL l).filterMap swapD = l.zipIdx.map fun p => .tup false [p.1, .int (p.2 : Int)] := by
  unfold enumL
  rw [List.filterMap_map, ← List.filterMap_eq_map]
  rfl
theorem mapM_pairs : ∀ (l : List (Int × D)), (l.map fun p => D.tup false [.int p.1, p.2]).mapM pairO = some (l.map fun p => (.inl p.1, p.2))
  | [] => rfl
  | p :: l => by
    rw [List.map_cons, List.mapM_cons, mapM_pairs l]
    rfl
theorem dict_enum {n : Nat} {order : List D} (hp : order.Perm (rangeL 0 n)) : ∃ l, dictO (.lst ((enumL order).filterMap swapD)) = some l ∧ ∀ a : Nat, a < n → ∃ t : Nat, findD l (.inl (.inl (a : Int))) = some (.int t) ∧ t < n := by
  rw [swap_enum]
  have hl : order.length = n := by rw [hp.length_eq, rangeL_len]
  have hi : ∀ d ∈ order, ∃ i : Nat, i < n ∧ d = .int i := fun d hd => mem_rangeL.mp (hp.mem_iff.mp hd)
  obtain ⟨is, e⟩ : ∃ is : List Int, order = is.map D.int := by
    clear hl hp
    induction order with
    | nil => exact ⟨[], rfl⟩
    | cons d l ih =>
      obtain ⟨i, _, rfl⟩ := hi d (by simp)
      obtain ⟨is, rfl⟩ := ih fun d hd => hi d (by simp [hd])
      exact ⟨(i : Int) :: is, rfl⟩
  have e2 : (order.zipIdx.map fun p => D.tup false [p.1, .int (p.2 : Int)]) = (is.zipIdx.map fun p => (p.1, D.int (p.2 : Int))).map fun p => D.tup false [.int p.1, p.2] := by
    rw [e, List.zipIdx_map, List.map_map, List.map_map]
    rfl
  rw [e2]
  refine ⟨mergeD ((is.zipIdx.map fun p => (p.1, D.int (p.2 : Int))).map fun p => (.inl p.1, p.2)), ?_, fun a ha => ?_⟩
  · show (List.mapM pairO _).map mergeD = _
    rw [mapM_pairs]
    rfl
  refine merge_find _ _ ?_ (.inl ?_)
  · intro p hp
    obtain ⟨q, hq, rfl⟩ := List.mem_map.mp hp
    obtain ⟨r, hr, rfl⟩ := List.mem_map.mp hq
    have := List.mem_zipIdx hr
    refine ⟨r.2, rfl, ?_⟩
    rw [← hl, e, List.length_map]
    omega
  · have hm : D.int (a : Int) ∈ order := hp.mem_iff.mpr (mem_rangeL.mpr ⟨a, ha, rfl⟩)
    rw [e] at hm
    obtain ⟨x, hx, ex⟩ := List.mem_map.mp hm
    cases ex
    obtain ⟨t, ht, et⟩ := List.mem_iff_getElem.mp hx
    refine ⟨(.inl (a : Int), .int (t : Int)), ?_, rfl⟩
    refine List.mem_map.mpr ⟨((a : Int), .int (t : Int)), List.mem_map.mpr ⟨((a : Int), t), ?_, rfl⟩, rfl⟩
    rw [List.mem_zipIdx_iff_getElem?]
    rw [List.getElem?_eq_getElem ht, et]
def TriT (n : Nat) (d : D) : Prop := ∃ a b c : Nat, d = .tup true [.int a, .int b, .int c] ∧ a < n ∧ b < n ∧ c < n
def IsMeshT (B np nt nE : Nat) (r : D) (s : Dl) : Prop := ∃ k ps ts, r = .tup k [.lst ps, .lst ts] ∧ MeshD B np nt nE ps ts ∧ (∀ d ∈ ts, TriT ps.length d) ∧ OkS s
theorem shuffled_wp {B np nt nE : Nat} {ps ts : List D} (hm : MeshD B np nt nE ps ts) (hn : nt ≤ 200) (hp : np ≤ 200) {s : Dl} (ok : OkS s) : wp (F__law_shuffled [.deal, .lst ps, .lst ts] s) (IsMeshT B np nt nE) := by
  unfold F__law_shuffled
  refine run_wp ?_
  unfold n__law_shuffled
  have hlt := hm.lt
  have hlp := hm.lp
  simp
  rw [lrg_nat (by omega)]
  simp
  rw [rng1_nat (by omega)]
  simp
  obtain ⟨I, hI⟩ : ∃ I : Nat → PEnv → Dl → Prop, I = fun i ρ s => OkS s ∧ ∃ o l a, o.length = i ∧ l.length + i = ps.length ∧ (o ++ l).Perm (rangeL 0 ps.length) ∧ ρ = [.im .deal, .im (.lst ps), .im (.lst ts), .mu o, .mu l, a, .un, .un, .un, .un, .un, .un] := ⟨_, rfl⟩
  refine for_inv I (by rw [hI]; exact ⟨ok, [], _, _, rfl, by simp, List.Perm.refl _, rfl⟩) ?_ ?_
  · intro i d ρ s hd hi
    rw [hI] at hi
    obtain ⟨ok, o, l, a, lo, ll, hpm, rfl⟩ := hi
    obtain ⟨hi, rfl⟩ := rangeL_get hd
    simp [wpS, appXM, popM]
    refine wp_call (draw_wp (by omega) (by omega) ok) ?_
    rintro _ s1 ⟨r, rfl, hr, ok1⟩
    have hr : r < l.length := by omega
    have er : l[r]? = some l[r] := List.getElem?_eq_getElem hr
    simp [popAt_nat hr (by omega), er]
    rw [wp_liftI]
    refine ⟨Nat.lt_of_lt_of_le (show o.length < 1000 by omega) (by decide), ?_⟩
    simp
    show I _ _ _
    rw [hI]
    refine ⟨ok1, _, _, _, ?_, ?_, ?_, rfl⟩
    · rw [List.length_append, lo]; rfl
    · rw [List.length_eraseIdx, if_pos hr]; omega
    · refine List.Perm.trans ?_ hpm
      rw [List.append_assoc]
      refine List.Perm.append_left _ ?_
      have e1 : l.eraseIdx r = l.take r ++ l.drop (r + 1) := List.eraseIdx_eq_take_drop_succ _ _
      have e2 : l.take r ++ l[r] :: l.drop (r + 1) = l := by rw [← List.drop_eq_getElem_cons hr, List.take_append_drop]
      rw [e1]
      have e3 := (List.perm_middle (a := l[r]) (l₁ := l.take r) (l₂ := l.drop (r + 1))).symm
      rw [e2] at e3
      exact e3
  · intro ρ s hi
    rw [hI] at hi
    obtain ⟨ok, o, l, a, lo, ll, hpm, rfl⟩ := hi
    rw [rangeL_len] at lo ll
    have l0 : l = [] := List.length_eq_zero_iff.mp (by omega)
    subst l0
    rw [List.append_nil] at hpm
    obtain ⟨di, edi, hdi⟩ := dict_enum hpm
    simp
    refine kB_map swapD (by simp; omega) (by rfl) ?_ ?_
    · intro d hd s
      obtain ⟨i, hi⟩ := List.mem_iff_getElem?.mp hd
      obtain ⟨x, hx, rfl⟩ := enum_get hi
      simp [swapD]
    simp [edi]
    have ho : ∀ d ∈ o, ∃ i : Nat, i < ps.length ∧ d = .int i := fun d hd => mem_rangeL.mp (hpm.mem_iff.mp hd)
    refine kB_all OkS (fun _ z => PtD B z) (by omega) (by rfl) ok ?_ ?_
    · intro d hd s ok
      obtain ⟨i, hi, rfl⟩ := ho d hd
      simp [List.getElem?_eq_getElem hi]
      exact ⟨hm.pt _ (List.getElem_mem hi), ok⟩
    intro qs s2 hq ok2
    have lq := hq.length
    obtain ⟨es, les, hes⟩ := hm.eb
    refine kB_all OkS (fun _ z => TriT qs.length z ∧ TriE (ren (numAt di) es) z) (by omega) (by rfl) ok2 ?_ ?_
    · intro d hd s ok
      obtain ⟨k, a, b, c, rfl, ha, hb, hc⟩ := hm.tr d hd
      obtain ⟨a', ea, ha'⟩ := hdi a ha
      obtain ⟨b', eb, hb'⟩ := hdi b hb
      obtain ⟨c', ec, hc'⟩ := hdi c hc
      simp [ea, eb, ec]
      exact ⟨⟨⟨a', b', c', rfl, by omega, by omega, by omega⟩, ren_tri ea eb ec (hes _ hd)⟩, ok⟩
    · intro zs s3 hz ok3
      have lz := hz.length
      have tt : ∀ d ∈ zs, TriT qs.length d := fun d hd => (hz.mem_right hd).elim fun _ q => q.2.1
      exact ⟨false, qs, zs, rfl, ⟨fun d hd => (hq.mem_right hd).elim fun _ q => q.2, fun d hd => (tt d hd).elim fun a ⟨b, c, e, h⟩ => ⟨true, a, b, c, e, h⟩, by omega, by omega, by have := hm.ne; omega, ren (numAt di) es, by unfold ren; rw [List.length_map]; exact les, fun d hd => (hz.mem_right hd).elim fun _ q => q.2.2⟩, tt, ok3⟩
end LF
end
section
set_option Elab.async false
set_option linter.all false
set_option maxRecDepth 10000
set_option pp.maxSteps 3000
namespace LF
open PL
theorem MeshD.mono {B np nt nE B' np' nt' nE' : Nat} {ps ts : List D} (h : MeshD B np nt nE ps ts) (h1 : B ≤ B') (h2 : np ≤ np') (h3 : nt ≤ nt') (h4 : nE ≤ nE') : MeshD B' np' nt' nE' ps ts :=
  ⟨fun d hd => (h.pt d hd).mono h1, h.tr, Nat.le_trans h.lp h2, Nat.le_trans h.lt h3, h.ne, h.eb.mono h4⟩
def BotMesh (bb B np nt nE : Nat) (r : D) (s : Dl) : Prop := OkS s ∧ ∃ k bot ps ts, r = .tup k [.int (bot : Nat), .lst ps, .lst ts] ∧ 0 < bot ∧ bot ≤ bb ∧ MeshD B np nt nE ps ts ∧ ∀ d ∈ ts, TriT ps.length d
theorem mesh_wp {most more : Nat} (h1 : most = 5 ∨ most = 6) (h2 : more ≤ 2) {s : Dl} (ok : OkS s) : wp (F__law_mesh [.deal, .int most, .int more] s) (BotMesh (5 ^ more) (220 * 5 ^ more) (12 + more) (13 * 2 ^ more - 1) (35 + 13 * more + more / 2)) := by
  unfold F__law_mesh
  refine run_wp ?_
  unfold n__law_mesh
  have hpick : ∀ d ∈ List.take most [D.tup false [.int 1, .int 1], .tup false [.int 2, .int 1], .tup false [.int 1, .int 0], .tup false [.int 2, .int 2], .tup false [.int 3, .int 2], .tup false [.int 2, .int 0]], ∃ w h : Nat, d = .tup false [.int w, .int h] ∧ 0 < w ∧ w ≤ 3 ∧ h ≤ 2 := by
    intro d hd
    have hd := List.mem_of_mem_take hd
    simp at hd
    rcases hd with rfl | rfl | rfl | rfl | rfl | rfl
    · exact ⟨1, 1, rfl, by decide, by decide, by decide⟩
    · exact ⟨2, 1, rfl, by decide, by decide, by decide⟩
    · exact ⟨1, 0, rfl, by decide, by decide, by decide⟩
    · exact ⟨2, 2, rfl, by decide, by decide, by decide⟩
    · exact ⟨3, 2, rfl, by decide, by decide, by decide⟩
    · exact ⟨2, 0, rfl, by decide, by decide, by decide⟩
  simp only [List.map_cons, List.map_nil, List.length_cons, List.length_nil, List.replicate, List.cons_append, List.nil_append]
  obtain ⟨J1, hJ1⟩ : ∃ J : PEnv → Dl → Prop, J = fun ρ s => OkS s ∧ ∃ w h : Nat, 0 < w ∧ w ≤ 3 ∧ h ≤ 2 ∧ ρ = [.im .deal, .im (.int most), .im (.int more), .im (.int w), .im (.int h), .un, .un, .un, .un] := ⟨_, rfl⟩
  refine seq_cut J1 ?_ ?_
  · simp
    refine wp_mono (pick_wp (by rcases h1 with rfl | rfl <;> simp) (by rcases h1 with rfl | rfl <;> simp) ok) ?_
    intro d s1 ⟨hd, ok1⟩
    obtain ⟨w, h, rfl, hw0, hw, hh⟩ := hpick d hd
    simp
    show J1 _ _
    rw [hJ1]
    exact ⟨ok1, w, h, hw0, hw, hh, rfl⟩
  intro ρ s hj
  rw [hJ1] at hj
  obtain ⟨ok, w, h, hw0, hw, hh, rfl⟩ := hj
  obtain ⟨J2, hJ2⟩ : ∃ J : PEnv → Dl → Prop, J = fun ρ s => OkS s ∧ ∃ ps ts, MeshD 220 12 12 35 ps ts ∧ ρ = [.im .deal, .im (.int most), .im (.int more), .im (.int w), .im (.int h), .im (.lst ps), .im (.lst ts), .un, .un] := ⟨_, rfl⟩
  refine seq_cut J2 ?_ ?_
  · simp
    refine kIf_d (fun hz => ?_) (fun hz => ?_)
    · simp
      refine wp_mono (ringed_wp w ok) ?_
      rintro _ s1 ⟨k, ps, ts, rfl, hm, ok1⟩
      simp
      refine wp_call (pick_wp (by simp) (by simp) ok1) ?_
      intro d s2 ⟨hd, ok2⟩
      obtain ⟨n, rfl, hn⟩ : ∃ n : Nat, d = .int n ∧ n < 100 := by
        simp at hd
        rcases hd with rfl | rfl | rfl
        · exact ⟨0, rfl, by decide⟩
        · exact ⟨1, rfl, by decide⟩
        · exact ⟨2, rfl, by decide⟩
      refine wp_call (cut_wp hm (by omega) hn ok2) ?_
      rintro _ s3 ⟨ok3, us, rfl, hm'⟩
      simp
      show J2 _ _
      rw [hJ2]
      exact ⟨ok3, ps, us, hm'.mono (by omega) (by omega) (by omega) (by omega), rfl⟩
    · have hh0 : 0 < h := by omega
      simp
      refine wp_mono (lattice_wp hw0 hw hh0 hh ok) ?_
      rintro _ s1 ⟨k, ps, ts, rfl, hm, ok1⟩
      have l2 : w * h ≤ 6 := Nat.mul_le_mul hw hh
      have e : (2 : Int) + w * h = ((2 + w * h : Nat) : Int) := by simp
      simp [mulD_int (mulOk_s (i := w) (j := h) (by omega) (by omega))]
      rw [e]
      refine wp_call (draw_wp (by omega) (by omega) ok1) ?_
      rintro _ s2 ⟨n, rfl, hn, ok2⟩
      refine wp_call (cut_wp hm (by omega) (by omega) ok2) ?_
      rintro _ s3 ⟨ok3, us, rfl, hm'⟩
      simp
      show J2 _ _
      rw [hJ2]
      exact ⟨ok3, ps, us, hm', rfl⟩
  intro ρ s hj
  rw [hJ2] at hj
  obtain ⟨ok, ps, ts, hm, rfl⟩ := hj
  refine seq_cut J2 ?_ ?_
  · simp
    refine wp_mono (kept_wp hm (by omega) (by omega) ok) ?_
    rintro _ s1 ⟨k, ps, ts, rfl, hm, ok1⟩
    simp
    show J2 _ _
    rw [hJ2]
    exact ⟨ok1, ps, ts, hm, rfl⟩
  intro ρ s hj
  rw [hJ2] at hj
  obtain ⟨ok, ps, ts, hm, rfl⟩ := hj
  obtain ⟨I, hI⟩ : ∃ I : Nat → PEnv → Dl → Prop, I = fun i ρ s => OkS s ∧ ∃ bot ps ts x, 0 < bot ∧ bot ≤ 5 ^ i ∧ MeshD (220 * 5 ^ i) (12 + i) (13 * 2 ^ i - 1) (35 + 13 * i + i / 2) ps ts ∧ ρ = [.im .deal, .im (.int most), .im (.int more), .im (.int w), .im (.int h), .im (.lst ps), .im (.lst ts), .im (.int (bot : Nat)), x] := ⟨_, rfl⟩
  simp
  refine wp_call (draw_wp (by omega) (by omega) ok) ?_
  rintro _ s1 ⟨n, rfl, hn, ok1⟩
  rw [rng1_nat (by omega)]
  simp
  refine for_inv I (by rw [hI]; exact ⟨ok1, 1, ps, ts, _, by decide, by decide, hm.mono (by decide) (by decide) (by decide) (by decide), rfl⟩) ?_ ?_
  · intro i d ρ s hd hi
    rw [hI] at hi
    obtain ⟨ok, bot, ps, ts, x, b0, b1, hm, rfl⟩ := hi
    obtain ⟨hi, rfl⟩ := rangeL_get hd
    have hi2 : i ≤ 1 := by omega
    simp
    have c : 5 ^ i ≤ 5 ∧ 2 ^ i ≤ 2 := by
      rcases Nat.le_one_iff_eq_zero_or_eq_one.mp hi2 with rfl | rfl <;> decide
    refine wp_mono (put_wp hm (by omega) (by omega) (by omega) b0 (by omega) ok) ?_
    rintro r s2 ⟨ok2, k, bot', ps', ts', rfl, c0, c1, hm'⟩
    simp
    show I _ _ _
    rw [hI]
    refine ⟨ok2, bot', ps', ts', _, c0, ?_, hm'.mono ?_ ?_ ?_ (by omega), rfl⟩
    · rw [Nat.pow_succ]; omega
    · rw [Nat.pow_succ]; omega
    · omega
    · have z0 : 0 < 2 ^ i := Nat.pow_pos (by decide)
      rw [Nat.pow_succ]
      generalize 2 ^ i = z at z0
      omega
  · intro ρ s hi
    rw [hI] at hi
    obtain ⟨ok, bot, ps, ts, x, b0, b1, hm, rfl⟩ := hi
    rw [rangeL_len] at b1 hm
    have e1 : 5 ^ n ≤ 5 ^ more := Nat.pow_le_pow_right (by decide) (by omega)
    have e2 : 2 ^ n ≤ 2 ^ more := Nat.pow_le_pow_right (by decide) (by omega)
    have c : 5 ^ more ≤ 25 ∧ 2 ^ more ≤ 4 := by
      rcases (show more = 0 ∨ more = 1 ∨ more = 2 by omega) with rfl | rfl | rfl <;> decide
    have hm := hm.mono (B' := 220 * 5 ^ more) (np' := 12 + more) (nt' := 13 * 2 ^ more - 1) (nE' := 35 + 13 * more + more / 2) (by omega) (by omega) (by omega) (by omega)
    simp
    refine wp_mono (shuffled_wp hm (by omega) (by omega) ok) ?_
    rintro _ s2 ⟨k, ps', ts', rfl, hm', tt, ok2⟩
    simp
    exact ⟨ok2, false, bot, ps', ts', rfl, b0, by omega, hm', tt⟩
end LF
end
section
set_option Elab.async false
set_option linter.all false
set_option maxRecDepth 10000
set_option pp.maxSteps 3000
namespace LF
open PL
@[simp] theorem asScr_s {l : List Int} : asScr (.scr l) = some l := id rfl
@[simp] theorem asL_l {l : List D} : asL (.lst l) = pure l := id rfl
theorem deal_wp {ns : List Int} (h : ns.length ≤ 63) {base : Int} (hb : base.natAbs ≤ 1000) {s : Dl} : wp (F__law_deal [.scr ns, .int base] s) (fun r _ => ∃ (ds : List Int) (m : Int), r = .lst [.lst (ds.map D.int), .int m] ∧ ds.length ≤ 63 ∧ m.natAbs < 2 ^ 31) := by
  unfold F__law_deal
  refine run_wp ?_
  unfold n__law_deal
  have m79 : mulOk 61 base = true := mulOk_s (by omega) (by omega)
  have epow : powD (.int 10) (.int 18) = pure (.int 1000000000000000000) := by rfl
  have ecut : (ns.map D.int).take 63 = (ns.map D.int) := by
    rw [List.take_of_length_le]
    rw [List.length_map]; exact h
  simp [ecut]
  refine kB_map (fun d => match d with
    | .int i => some (.int (if i < 0 then -i else i))
    | _ => none) (by simp; omega) (by rfl) ?_ ?_
  · intro d hd s
    obtain ⟨i, _, rfl⟩ := List.mem_map.mp hd
    simp
  have e1 : (ns.map D.int).filterMap (fun d => match d with
    | .int i => some (.int (if i < 0 then -i else i))
    | _ => none) = (ns.map fun i => if i < 0 then -i else i).map D.int := by
    rw [List.filterMap_map, List.map_map, ← List.filterMap_eq_map]
    rfl
  rw [e1]
  generalize hcs : (ns.map fun i => if i < 0 then -i else i) = cs
  have lcs : cs.length ≤ 63 := by rw [← hcs, List.length_map]; exact h
  simp [mulD_int m79]
  obtain ⟨I, hI⟩ : ∃ I : PEnv → Dl → Prop, I = fun ρ s => ∃ m x, m.natAbs < 2 ^ 31 ∧ (x = .un ∨ ∃ d, x = .im d) ∧ ρ = [.im (.scr ns), .im (.int base), .im (.lst (cs.map D.int)), .im (.int m), x] := ⟨_, rfl⟩
  refine for_all I (by rw [hI]; exact ⟨_, _, by omega, .inl rfl, rfl⟩) ?_ ?_
  · intro d hd ρ s hi
    rw [hI] at hi
    obtain ⟨m, x, hm, hx, rfl⟩ := hi
    obtain ⟨c, _, rfl⟩ := List.mem_map.mp hd
    have m1 : mulOk m 48271 = true := mulOk_s (by omega) (by omega)
    simp [mulD_int m1, modD_int (i := c) (j := 2147483549) (by omega)]
    rw [modD_int (by omega)]
    simp
    show I _ _
    rw [hI]
    have r1 := fmod_rng (m * 48271 + c.fmod 2147483549 + 79) (b := 2147483647) (by omega)
    exact ⟨_, _, by omega, .inr ⟨_, rfl⟩, rfl⟩
  · intro ρ s hi
    rw [hI] at hi
    obtain ⟨m, x, hm, hx, rfl⟩ := hi
    simp
    refine kB_map (fun d => match d with
      | .int i => if 1000000000000000000 ≤ i then some (.int i) else none
      | _ => none) (by simp; omega) (by rcases hx with rfl | ⟨d, rfl⟩ <;> rfl) ?_ ?_
    · intro d hd s
      obtain ⟨i, _, rfl⟩ := List.mem_map.mp hd
      simp [epow]
      refine kCt_b (fun q => ?_) (fun q => ?_)
      · have q := of_decide_eq_true q
        simp [q]
      · have q := of_decide_eq_false q
        simp
        omega
    have e2 : (cs.map D.int).filterMap (fun d => match d with
      | .int i => if 1000000000000000000 ≤ i then some (.int i) else none
      | _ => none) = (cs.filter fun i => decide (1000000000000000000 ≤ i)).map D.int := by
      rw [List.filterMap_map]
      generalize cs = l
      induction l with
      | nil => rfl
      | cons c l ih =>
        by_cases hc : 1000000000000000000 ≤ c
        · rw [List.filterMap_cons_some (b := .int c) (by show (if _ then some (D.int c) else none) = _; rw [if_pos hc]), List.filter_cons_of_pos (by simpa using hc), ih, List.map_cons]
        · rw [List.filterMap_cons_none (by show (if _ then some (D.int c) else none) = _; rw [if_neg hc]), List.filter_cons_of_neg (by simpa using hc), ih]
    rw [e2]
    generalize hfs : (cs.filter fun i => decide (1000000000000000000 ≤ i)) = fs
    have lfs : fs.length ≤ 63 := by rw [← hfs]; exact Nat.le_trans (List.length_filter_le _ _) lcs
    exact ⟨fs.reverse, m, by simp, by simpa using lfs, hm⟩
end LF
end
section
set_option Elab.async false
set_option linter.all false
set_option maxRecDepth 10000
set_option pp.maxSteps 3000
namespace LF
open PL Rat
abbrev Tri := Nat × Nat × Nat
def triD (k : Bool) (t : Tri) : D := .tup k [.int t.1, .int t.2.1, .int t.2.2]
def triOf : D → Tri
  | .tup _ [.int a, .int b, .int c] => (a.toNat, b.toNat, c.toNat)
  | _ => (0, 0, 0)
def ptOf : D → Int × Int
  | .tup _ [.int x, .int y] => (x, y)
  | _ => (0, 0)
theorem TriT.eq {n : Nat} {d : D} (h : TriT n d) : d = triD true (triOf d) ∧ (triOf d).1 < n ∧ (triOf d).2.1 < n ∧ (triOf d).2.2 < n := by
  obtain ⟨a, b, c, rfl, ha, hb, hc⟩ := h
  exact ⟨rfl, ha, hb, hc⟩
theorem PtD.eq {B : Nat} {d : D} (h : PtD B d) : ∃ k, d = .tup k [.int (ptOf d).1, .int (ptOf d).2] ∧ (ptOf d).1.natAbs ≤ B ∧ (ptOf d).2.natAbs ≤ B := by
  obtain ⟨k, x, y, rfl, hx, hy⟩ := h
  exact ⟨k, rfl, hx, hy⟩
/-- from the least corner on -/
def least3 (t : Tri) : Tri := if t.1 ≤ t.2.1 ∧ t.1 ≤ t.2.2 then t else if t.2.1 ≤ t.2.2 then (t.2.1, t.2.2, t.1) else (t.2.2, t.1, t.2.1)
theorem least3_rot (t : Tri) : least3 t = t ∨ least3 t = (t.2.1, t.2.2, t.1) ∨ least3 t = (t.2.2, t.1, t.2.1) := by
  unfold least3
  split
  · exact .inl rfl
  · split
    · exact .inr (.inl rfl)
    · exact .inr (.inr rfl)
theorem minA3 {k : Bool} {a b c : Int} : minAO false (.tup k [.int a, .int b, .int c]) = some (.int (min (min a b) c)) := rfl
theorem idx3 {a b c m : Int} (h : m = a ∨ m = b ∨ m = c) : idxO (.tup true [.int a, .int b, .int c]) (.int m) = some (.int (if a = m then 0 else if b = m then 1 else 2)) := by
  have p : Pl 1 (.tup true [.int a, .int b, .int c]) := .tup true (pl_ints [a, b, c])
  have sh := p.shaped (by omega)
  rw [show D.tup true [.int a, .int b, .int c] = .tup true ([a, b, c].map D.int) from rfl, enc_ints] at sh
  show ((toPyA [.int a, .int b, .int c]).bind fun ps => (toPy (.int m)).bind fun q => idxPlace ps (PySem.SeqAt.shaped (.tuple ps)) q) = _
  rw [toPyA_map (l := [.int a, .int b, .int c]) fun d hd => (pl_ints [a, b, c] d hd).py.1]
  show idxPlace [PySem.PyData.int a, .int b, .int c] (PySem.SeqAt.shaped (.tuple [.int a, .int b, .int c])) (.int m) = _
  unfold idxPlace
  rw [if_pos ⟨sh, shaped_int m⟩]
  simp only [List.findIdx?_cons, PySem.PyData.eqv, List.findIdx?_nil]
  by_cases e1 : a = m
  · subst e1; simp
  · by_cases e2 : b = m
    · subst e2; simp [e1]
    · obtain rfl : m = c := by omega
      simp [e1, e2]
theorem least_wp (t : Tri) {s : Dl} : wp (F__law_least [triD true t] s) (fun r s' => s' = s ∧ r = triD false (least3 t)) := by
  obtain ⟨a, b, c⟩ := t
  unfold F__law_least
  refine run_wp ?_
  unfold n__law_least
  obtain ⟨m, em, hm⟩ : ∃ m : Int, minAO false (.tup true [.int a, .int b, .int c]) = some (.int m) ∧ m = min (min (a : Int) b) c := ⟨_, minA3, rfl⟩
  have ei := idx3 (a := a) (b := b) (c := c) (m := m) (by omega)
  have ea : idxAble (.tup true [.int a, .int b, .int c]) = some () := rfl
  have c0 : ∀ x y z u v w : D, cutL [x, y, z, u, v, w] (some 0) (some 3) = [x, y, z] := fun _ _ _ _ _ _ => rfl
  have c1 : ∀ x y z u v w : D, cutL [x, y, z, u, v, w] (some 1) (some 4) = [y, z, u] := fun _ _ _ _ _ _ => rfl
  have c2 : ∀ x y z u v w : D, cutL [x, y, z, u, v, w] (some 2) (some 5) = [z, u, v] := fun _ _ _ _ _ _ => rfl
  unfold least3
  by_cases h1 : a ≤ b ∧ a ≤ c
  · rw [if_pos (by omega)] at ei
    rw [if_pos h1]
    simp [triD, em, ei, ea, c0]
  · rw [if_neg (by omega)] at ei
    rw [if_neg h1]
    by_cases h2 : b ≤ c
    · rw [if_pos (by omega)] at ei
      rw [if_pos h2]
      simp [triD, em, ei, ea, c1]
    · rw [if_neg (by omega)] at ei
      rw [if_neg h2]
      simp [triD, em, ei, ea, c2]
/-- a point of the mesh -/
def ptFr (bot : Int) (d : D) : D := .tup false [frD false ((ptOf d).1 /. bot), frD false ((ptOf d).2 /. bot)]
theorem point_ok {B : Nat} {d : D} (h : PtD B d) {bot : Int} (h0 : 0 < bot) (h1 : bot < 2 ^ 60) : F__law_point [d, .int bot] = pure (ptFr bot d) := by
  obtain ⟨k, x, y, rfl, hx, hy⟩ := h
  have e1 : ∀ t : Int, F__law_frac [.int t, .int bot] = pure (frD false (t /. bot)) := fun t => F_frac_ok (by omega) (n := 60) (by omega) (by omega)
  unfold F__law_point runF n__law_point ptFr ptOf
  simp [e1]
def meshD (bot : Int) (ps ts : List D) : D := .ins "Mesh" [("points", .tup false (ps.map (ptFr bot))), ("triangles", .tup false (sortL (ts.map fun d => triD false (least3 (triOf d)))))]
theorem made_wp {B : Nat} {ps ts : List D} (hp : ∀ d ∈ ps, PtD B d) (ht : ∀ d ∈ ts, TriT ps.length d) (lp : ps.length ≤ 200) (lt : ts.length ≤ 200) {bot : Nat} (h0 : 0 < bot) (h1 : bot < 2 ^ 60) {s : Dl} :
    wp (F__law_made [.int bot, .lst ps, .lst ts] s) (fun r s' => s' = s ∧ r = meshD bot ps ts) := by
  unfold F__law_made
  refine run_wp ?_
  unfold n__law_made
  simp
  refine kB_map (fun d => some (ptFr bot d)) (by omega) (by rfl) ?_ ?_
  · intro d hd s
    simp [point_ok (hp d hd) (bot := bot) (by omega) (by omega)]
  rw [List.filterMap_eq_map']
  refine kB_map (fun d => some (triD false (least3 (triOf d)))) (by omega) (by rfl) ?_ ?_
  · intro d hd s
    obtain ⟨e, _⟩ := (ht d hd).eq
    simp
    rw [e]
    refine wp_mono (least_wp _) ?_
    rintro _ s' ⟨rfl, rfl⟩
    simp
    rfl
  rw [List.filterMap_eq_map']
  have hs : ∀ d ∈ ts.map (fun d => triD false (least3 (triOf d))), IntT 3 d := fun d hd => by
    obtain ⟨t, _, rfl⟩ := List.mem_map.mp hd
    exact ⟨false, [_, _, _], rfl, rfl⟩
  rw [sortA_l (by omega) hs]
  simp
  rfl
@[simp] theorem fld_pts {a b : D} : fldC "Mesh" "points" (.ins "Mesh" [("points", a), ("triangles", b)]) = some a := id rfl
@[simp] theorem fld_tris {a b : D} : fldC "Mesh" "triangles" (.ins "Mesh" [("points", a), ("triangles", b)]) = some b := id rfl
/-- a field -/
def fieldD (qs : List Rat) : D := .tup false (qs.map (frD false))
theorem frD_int (i : Int) : frD false (i : Rat) = .tup false [.int i, .int 1] := rfl
theorem Fz_di {t b : Int} {n d : Nat} (hb : b ≠ 0) (ht : t.natAbs ≤ 2 ^ n) (hd : b.natAbs ≤ 2 ^ d) : Fz n d (t /. b) := Fz.di hb ht hd
theorem field_wp {n : Nat} (hn : n ≤ 100) {s : Dl} (ok : OkS s) : wp (F__law_field [.deal, .int n] s) (fun r s' => OkS s' ∧ ∃ qs, r = fieldD qs ∧ qs.length = n ∧ ∀ q ∈ qs, Fz 5 2 q) := by
  unfold F__law_field
  refine run_wp ?_
  unfold n__law_field
  simp
  refine wp_call (draw_wp (by omega) (by omega) ok) ?_
  rintro _ s1 ⟨k, rfl, hk, ok1⟩
  simp
  rw [rng1_nat (by omega)]
  simp
  obtain ⟨I, hI⟩ : ∃ I : Nat → PEnv → Dl → Prop, I = fun i ρ s => OkS s ∧ ∃ (qs : List Rat) (x : Slot), qs.length = i ∧ (∀ q ∈ qs, Fz 5 2 q) ∧ ρ = [.im .deal, .im (.int n), .im (.int k), .mu (qs.map (frD false)), x] := ⟨_, rfl⟩
  refine for_inv I (by rw [hI]; exact ⟨ok1, [], _, rfl, by simp, rfl⟩) ?_ ?_
  · intro i d ρ s hd hi
    rw [hI] at hi
    obtain ⟨ok, qs, x, lq, hq, rfl⟩ := hi
    obtain ⟨hi, rfl⟩ := rangeL_get hd
    have fin : ∀ (q : Rat) (d : D) (s : Dl) (Q : Post), d = frD false q → Fz 5 2 q → OkS s → kApp 3 (qs.map (frD false)) [.im .deal, .im (.int n), .im (.int k), .mu (qs.map (frD false)), .im (.int i)] (kLoop (I (i + 1)) Q) d s := by
      rintro q _ s Q rfl hz ok
      rw [kApp_ok (by simp; omega)]
      simp only [List.set_cons_succ, List.set_cons_zero]
      show I _ _ _
      rw [hI]
      refine ⟨ok, qs ++ [q], _, ?_, ?_, by rw [List.map_append]; rfl⟩
      · rw [List.length_append, lq]; rfl
      · intro p hp
        rcases List.mem_append.mp hp with hp | hp
        · exact hq p hp
        · simp at hp
          subst hp
          exact hz
    simp
    refine kIf_d (fun h0 => ?_) (fun h0 => ?_)
    · rw [wpS_app (l := qs.map (frD false)) (by simp)]
      simp
      refine wp_call (draw_wp (by omega) (by omega) ok) ?_
      rintro _ s2 ⟨r, rfl, hr, ok2⟩
      simp
      exact fin ((r : Int) : Rat) _ _ _ rfl ⟨by show (r : Int).natAbs ≤ _; omega, by show 1 ≤ _; decide⟩ ok2
    · simp
      refine kIf_d (fun h1 => ?_) (fun h1 => ?_)
      all_goals
        rw [wpS_app (l := qs.map (frD false)) (by simp)]
        simp
        refine wp_call (draw_wp (by omega) (by omega) ok) ?_
        rintro _ s2 ⟨r, rfl, hr, ok2⟩
        simp
        refine wp_call (draw_wp (by omega) (by omega) ok2) ?_
        rintro _ s3 ⟨b, rfl, hb, ok3⟩
        simp
        rw [F_frac_ok (by omega) (n := 60) (by omega) (by omega)]
        simp
        exact fin _ _ _ _ rfl (Fz_di (by omega) (by omega) (by omega)) ok3
  · intro ρ s hi
    rw [hI] at hi
    obtain ⟨ok, qs, x, lq, hq, rfl⟩ := hi
    rw [rangeL_len] at lq
    simp
    exact ⟨ok, qs, rfl, lq, hq⟩
end LF
end
section
set_option Elab.async false
set_option linter.all false
set_option maxRecDepth 10000
set_option pp.maxSteps 3000
namespace LF
open PL Rat
theorem one_over {k : Int} (h : 0 < k) : D.tup false [.int 1, .int k] = frD false (1 /. k) := by
  unfold frD
  rw [num_divInt, den_divInt, if_neg (by omega), Int.sign_eq_one_of_pos h]
  have e : Nat.gcd k.natAbs (Int.natAbs 1) = 1 := Nat.gcd_one_right _
  rw [show Int.gcd k 1 = 1 from Int.gcd_one]
  simp
  omega
theorem level_wp {qs : List Rat} (h0 : 0 < qs.length) (h1 : qs.length ≤ 100) (hq : ∀ q ∈ qs, Fz 5 2 q) {s : Dl} (ok : OkS s) : wp (F__law_level [.deal, fieldD qs] s) (fun r s' => OkS s' ∧ ∃ q, r = frD false q ∧ Fz 8 5 q) := by
  unfold F__law_level
  refine run_wp ?_
  unfold n__law_level
  have hp : ∀ d ∈ qs.map (frD false), ∃ q ∈ qs, d = frD false q := fun d hd => by
    obtain ⟨q, h, rfl⟩ := List.mem_map.mp hd
    exact ⟨q, h, rfl⟩
  simp
  unfold fieldD
  refine wp_call (pickT_wp (by simpa using h0) (by simp; omega) ok) ?_
  intro d s1 ⟨hd, ok1⟩
  obtain ⟨a, ha, rfl⟩ := hp d hd
  refine wp_call (pickT_wp (by simpa using h0) (by simp; omega) ok1) ?_
  intro d s1 ⟨hd, ok1⟩
  obtain ⟨b, hb, rfl⟩ := hp d hd
  refine wp_call (draw_wp (by omega) (by omega) ok1) ?_
  rintro _ s2 ⟨k, rfl, hk, ok2⟩
  have za := hq a ha
  have zb := hq b hb
  simp
  refine kIf_d (fun c1 => ?_) (fun c1 => ?_)
  · simp
    exact ⟨ok2, a, rfl, za.mono (by omega) (by omega)⟩
  simp
  refine kIf_d (fun c2 => ?_) (fun c2 => ?_)
  · have m1 : mulOk a.num b.den = true := mulOk_s (by have := za.1; omega) (by have := zb.2; omega)
    have m2 : mulOk b.num a.den = true := mulOk_s (by have := zb.1; omega) (by have := za.2; omega)
    have m3 : mulOk 2 a.den = true := mulOk_s (by omega) (by have := za.2; omega)
    have m4 : mulOk (2 * a.den) b.den = true := mulOk_s (by have := za.2; omega) (by have := zb.2; omega)
    have p1 := Nat.mul_le_mul za.1 zb.2
    have p2 := Nat.mul_le_mul zb.1 za.2
    have p3 := Nat.mul_le_mul za.2 zb.2
    have q1 : (2 * (a.den : Int) * b.den).natAbs ≤ 2 ^ 5 := by
      rw [Int.natAbs_mul, Int.natAbs_mul, Int.natAbs_natCast, Int.natAbs_natCast, Nat.mul_assoc]
      show 2 * (a.den * b.den) ≤ _
      omega
    have q2 : (a.num * (b.den : Int) + b.num * a.den).natAbs ≤ 2 ^ 8 := by
      refine Nat.le_trans (Int.natAbs_add_le _ _) ?_
      rw [Int.natAbs_mul, Int.natAbs_mul, Int.natAbs_natCast, Int.natAbs_natCast]
      omega
    have q3 : (2 * (a.den : Int) * b.den) ≠ 0 := Int.mul_ne_zero (Int.mul_ne_zero (by omega) (den_ne a)) (den_ne b)
    simp [frD, mulD_int m1, mulD_int m2, mulD_int m3, mulD_int m4]
    rw [F_frac_ok q3 (n := 60) (by omega) (by omega)]
    simp
    exact ⟨ok2, _, rfl, Fz_di q3 q2 q1⟩
  simp
  refine kIf_d (fun c3 => ?_) (fun c3 => ?_)
  · simp
    refine wp_call (draw_wp (by omega) (by omega) ok2) ?_
    rintro _ s3 ⟨r, rfl, hr, ok3⟩
    have z1 : Fz 0 2 (1 /. (1 + (r : Int))) := Fz_di (by omega) (by decide) (by omega)
    simp
    rw [one_over (by omega), F__law_plus_ok .f .f za z1 (by omega)]
    simp
    exact ⟨ok3, _, rfl, (za.add z1 (m := 7) (by omega) (by omega)).mono (by omega) (by omega)⟩
  · simp
    refine wp_call (draw_wp (by omega) (by omega) ok2) ?_
    rintro _ s3 ⟨r, rfl, hr, ok3⟩
    simp
    refine wp_call (draw_wp (by omega) (by omega) ok3) ?_
    rintro _ s4 ⟨t, rfl, ht, ok4⟩
    simp
    rw [F_frac_ok (by omega) (n := 60) (by omega) (by omega)]
    simp
    exact ⟨ok4, _, rfl, (Fz_di (n := 4) (d := 2) (by omega) (by omega) (by omega)).mono (by omega) (by omega)⟩
end LF
end
section
set_option Elab.async false
set_option linter.all false
set_option maxRecDepth 10000
set_option pp.maxSteps 3000
namespace LF
open PL Rat
theorem pure_of_wp {m : M D} {v : D} (h : ∀ s, wp (m s) (fun r s' => s' = s ∧ r = v)) : m = pure v := by
  funext s
  obtain ⟨r, s', e, rfl, rfl⟩ := wp_get (h s)
  exact e
def ptQ (p : Pt) : D := .tup false [frD false p.x, frD false p.y]
def PSz (n d : Nat) (p : Pt) : Prop := Fz n d p.x ∧ Fz n d p.y
theorem PSz.mono {n d n' d' : Nat} {p : Pt} (h : PSz n d p) (h1 : n ≤ n') (h2 : d ≤ d') : PSz n' d' p := ⟨h.1.mono h1 h2, h.2.mono h1 h2⟩
theorem mov_sz {a b : Pt} {p : Rat} (ha : PSz 13 5 a) (hb : PSz 13 5 b) (hp : Fz 20 18 p) : PSz 60 40 (mov a b p) := by
  have go : ∀ {x y : Rat}, Fz 13 5 x → Fz 13 5 y → Fz 60 40 (x + p * (y - x)) := fun hx hy =>
    (hx.add (hp.mul (hy.sub hx (m := 18) (by omega) (by omega))) (m := 48) (by omega) (by omega)).mono (by omega) (by omega)
  exact ⟨go ha.1 hb.1, go ha.2 hb.2⟩
theorem F_moved_ok {a b : Pt} {p : Rat} {k : Bool} (ha : PSz 13 5 a) (hb : PSz 13 5 b) (hp : Fz 20 18 p) : F_moved [ptQ a, ptQ b, frD k p] = pure (ptQ (mov a b p)) := by
  have go : ∀ {x y : Rat}, Fz 13 5 x → Fz 13 5 y → F_minus [frD false y, frD false x] = pure (frD false (y - x)) ∧ F_times [frD k p, frD false (y - x)] = pure (frD false (p * (y - x))) ∧ F_plus [frD false x, frD false (p * (y - x))] = pure (frD false (x + p * (y - x))) := fun hx hy => by
    have s1 := hy.sub hx (m := 18) (by omega) (by omega)
    exact ⟨F_minus_ok .f .f hy hx (by omega), F_times_ok ⟨k, rfl⟩ .f hp s1 (by omega), F_plus_ok .f .f hx (hp.mul s1) (by omega)⟩
  obtain ⟨x1, x2, x3⟩ := go ha.1 hb.1
  obtain ⟨y1, y2, y3⟩ := go ha.2 hb.2
  unfold F_moved runF n_moved ptQ mov
  simp [x1, x2, x3, y1, y2, y3]
theorem zero_fr : D.tup true [.int 0, .int 1] = frD true 0 := rfl
theorem Fz.zero : Fz 0 0 0 := ⟨by decide, by decide⟩
theorem F_high_ok {qs : List Rat} {l : Rat} {k : Bool} (hq : ∀ q ∈ qs, Fz 5 2 q) (hz : Fz 13 8 l) {i : Nat} {q : Rat} (hi : qs[i]? = some q) : F_is_high [fieldD qs, frD k l, .int i] = pure (.bl (decide (l ≤ q))) := by
  have c := F_compared_ok (d1 := frD false q) (d2 := frD k l) .f ⟨_, rfl⟩ (hq q (List.mem_of_getElem? hi)) hz (by omega)
  unfold F_is_high runF n_is_high fieldD
  simp [hi, c]
  unfold cmpI
  by_cases h1 : q = l
  · subst h1
    simp [Rat.le_refl]
  · by_cases h2 : l < q
    · simp [h1, h2, Rat.le_of_lt h2]
    · have : ¬ l ≤ q := fun z => by grind
      simp [h1, h2, this]
/-- a mesh, seen plainly -/
def meshQ (P : List Pt) (us : List Tri) : D := .ins "Mesh" [("points", .tup false (P.map ptQ)), ("triangles", .tup false (us.map (triD false)))]
theorem F_gate_ok {P : List Pt} {us : List Tri} {qs : List Rat} {l : Rat} {k : Bool} (hP : ∀ p ∈ P, PSz 13 5 p) (hq : ∀ q ∈ qs, Fz 5 2 q) (hz : Fz 13 8 l) {h w : Nat} {a b : Pt} {fa fb : Rat} (ea : P[h]? = some a) (eb : P[w]? = some b) (ha : qs[h]? = some fa) (hb : qs[w]? = some fb) (ne : fa - fb ≠ 0) :
    F_gate_point [meshQ P us, fieldD qs, frD k l, .tup false [.int h, .int w]] = pure (ptQ (gat l a fa b fb)) ∧ PSz 60 40 (gat l a fa b fb) := by
  have za := hq _ (List.mem_of_getElem? ha)
  have zb := hq _ (List.mem_of_getElem? hb)
  have pa := hP _ (List.mem_of_getElem? ea)
  have pb := hP _ (List.mem_of_getElem? eb)
  have s1 := hz.sub zb (m := 15) (by omega) (by omega)
  have s2 := za.sub zb (m := 7) (by omega) (by omega)
  have m1 := F_minus_ok (d1 := frD k l) (d2 := frD false fb) ⟨_, rfl⟩ .f hz zb (by omega)
  have m2 := F_minus_ok (d1 := frD false fa) (d2 := frD false fb) .f .f za zb (by omega)
  have o := F_over_ok (d1 := frD false (l - fb)) (d2 := frD false (fa - fb)) .f .f s1 s2 ne (by omega)
  have sp : Fz 20 18 ((l - fb) / (fa - fb)) := (s1.div s2 ne).mono (by omega) (by omega)
  have mv := F_moved_ok (k := false) pb pa sp
  refine ⟨pure_of_wp fun s => ?_, mov_sz pb pa sp⟩
  unfold F_gate_point
  refine run_wp ?_
  unfold n_gate_point fieldD meshQ
  simp [ha, hb, ea, eb, m1, m2, o, mv]
  rfl
theorem F_ways_ok (k : Bool) (t : Tri) : F_ways_round [triD k t] = pure (.tup false [.tup false [.int t.1, .int t.2.1], .tup false [.int t.2.1, .int t.2.2], .tup false [.int t.2.2, .int t.1]]) := by
  refine pure_of_wp fun s => ?_
  unfold F_ways_round
  refine run_wp ?_
  unfold n_ways_round triD
  simp
theorem wpS_app0 {m : PEnv → M D} {a b c d : Slot} {l : List D} {ρ : PEnv} {s : Dl} {Q : Post} : wpS (appM 4 m) (a :: b :: c :: d :: .mu l :: ρ) s Q = wp (m (a :: b :: c :: d :: .mu l :: ρ) s) (kAppE 4 (some l) (a :: b :: c :: d :: .mu l :: ρ) Q) := by
  rw [wpS_appE (l := l) (by simp)]
  simp
end LF
end
section
set_option Elab.async false
set_option linter.all false
set_option maxRecDepth 10000
set_option pp.maxSteps 3000
namespace LF
open PL
def numsD (l : List Nat) : List D := l.map fun n : Nat => D.int (n : Int)
theorem range_nums (n : Nat) : rangeL 0 n = numsD (List.range n) := by
  unfold rangeL numsD
  refine List.map_congr_left fun i _ => ?_
  simp
@[simp] theorem nums_len {l : List Nat} : (numsD l).length = l.length := by unfold numsD; simp
theorem nums_get {l : List Nat} {i : Nat} (h : i < l.length) : (numsD l)[i]? = some (.int ((atN l i : Nat) : Int)) := by
  unfold numsD
  rw [List.getElem?_map, List.getElem?_eq_getElem h, getD_lt h]
  rfl
theorem minO_n (a b : Nat) : minO (.int (a : Int)) (.int (b : Int)) = some (.int ((min a b : Nat) : Int)) := by
  show some (D.int (if (b : Int) < (a : Int) then (b : Int) else (a : Int))) = _
  congr 2
  split <;> omega
theorem maxO_n (a b : Nat) : maxO (.int (a : Int)) (.int (b : Int)) = some (.int ((max a b : Nat) : Int)) := by
  show some (D.int (if (b : Int) > (a : Int) then (b : Int) else (a : Int))) = _
  congr 2
  split <;> omega
@[simp] theorem kA_pD {gs : List D → PEnv → Option PEnv} {ρ : PEnv} {Q : Post} {p : Nat × Nat} {s : Dl} : kA (gTup' gs) ρ Q (pD p) s = kG gs ρ [.int p.1, .int p.2] Q s := id rfl
/-- a comprehension over data that tell what they come from -/
theorem kB_via {α : Type} {e : α → D} (inj : ∀ a b, e a = e b → a = b) {own : List Nat} {g : D → PEnv → Option PEnv} {mt : PEnv → M Bool} {me : PEnv → M D} {ρ : PEnv} {R : List D → Dl → Prop} {l : List α} {s : Dl} (f : α → Option D) (hl : l.length ≤ 1000) (hf : ownFree ρ own = true)
    (st : ∀ a ∈ l, ∀ s, kA g (wipeE ρ own) (kCp mt me (fun o s' => o = f a ∧ s' = s)) (e a) s) (k : R (l.filterMap f) s) : kB own g mt me ρ R (l.map e) s := by
  classical
  let f' : D → Option D := fun d => if h : ∃ a, d = e a then f h.choose else none
  have ef : ∀ a, f' (e a) = f a := fun a => by
    have h : ∃ b, e a = e b := ⟨a, rfl⟩
    show (if h : ∃ b, e a = e b then f h.choose else none) = f a
    rw [dif_pos h, inj _ _ h.choose_spec.symm]
  refine kB_map f' (by simpa using hl) hf (fun d hd s => ?_) ?_
  · obtain ⟨a, ha, rfl⟩ := List.mem_map.mp hd
    rw [ef]
    exact st a ha s
  · have : (l.map e).filterMap f' = l.filterMap f := by
      rw [List.filterMap_map]
      congr 1
      funext a
      exact ef a
    rw [this]
    exact k
theorem int_inj (a b : Nat) (h : D.int (a : Int) = D.int (b : Int)) : a = b := by
  injection h with h
  omega
theorem pD_inj (p q : Nat × Nat) (h : pD p = pD q) : p = q := by
  unfold pD at h
  injection h with _ h
  injection h with h1 h
  injection h with h2 _
  injection h1 with h1
  injection h2 with h2
  exact Prod.ext (by omega) (by omega)
theorem filterMap_some' {α β : Type} (f : α → β) (l : List α) : (l.filterMap fun a => some (f a)) = l.map f := by
  induction l with
  | nil => rfl
  | cons a l ih => simp
theorem filterMap_if' {α β : Type} (f : α → β) (p : α → Prop) [DecidablePred p] (l : List α) : (l.filterMap fun a => if p a then some (f a) else none) = (l.filter fun a => decide (p a)).map f := by
  induction l with
  | nil => rfl
  | cons a l ih =>
    by_cases h : p a
    · simp [h, ih]
    · simp [h, ih]
theorem get_lt {α : Type} {l : List α} {i : Nat} {d : α} (h : l[i]? = some d) : i < l.length := by
  rcases Nat.lt_or_ge i l.length with z | z
  · exact z
  · rw [List.getElem?_eq_none z] at h; cases h
theorem F_lots_ok {n : Nat} (hn : n ≤ 100) {ps : List (Nat × Nat)} (hp : ∀ q ∈ ps, q.1 < n ∧ q.2 < n) (hl : ps.length ≤ 1000) : F_lots_of [.int n, .lst (ps.map pD)] = pure (lotsD n (labs n ps)) := by
  refine pure_of_wp fun s0 => ?_
  unfold F_lots_of
  refine run_wp ?_
  unfold n_lots_of
  simp
  rw [lrg_nat (by omega), range_nums]
  simp
  obtain ⟨I, hI⟩ : ∃ I : Nat → PEnv → Dl → Prop, I = fun i ρ s => s = s0 ∧ ∃ a b c d, ρ = [.im (.int n), .im (.lst (ps.map pD)), .im (.lst (numsD (labs n (ps.take i)))), a, b, c, d, .un, .un, .un] := ⟨_, rfl⟩
  refine for_inv I (by rw [hI]; exact ⟨rfl, _, _, _, _, rfl⟩) ?_ ?_
  · intro i d ρ s hd hi
    rw [hI] at hi
    obtain ⟨rfl, a, b, c, e, rfl⟩ := hi
    have hi : i < ps.length := by simpa using get_lt hd
    rw [List.getElem?_map, List.getElem?_eq_getElem hi] at hd
    obtain rfl : pD ps[i] = d := Option.some.inj hd
    have tk : labs n (ps.take (i + 1)) = relab (labs n (ps.take i)) ps[i] := by
      unfold labs
      rw [List.take_succ_eq_append_getElem hi, List.foldl_append]
      rfl
    have L := labsOk (n := n) (ps := ps.take i) fun q hq => hp q (List.mem_of_mem_take hq)
    obtain ⟨h1, h2⟩ := hp _ (List.getElem_mem hi)
    generalize labs n (ps.take i) = lab at L tk
    generalize ps[i] = p at h1 h2 tk
    have g1 := nums_get (l := lab) (i := p.1) (by rw [L.len]; exact h1)
    have g2 := nums_get (l := lab) (i := p.2) (by rw [L.len]; exact h2)
    have ll : (numsD lab).length ≤ 1000 := by rw [nums_len, L.len]; omega
    simp [g1, g2, minO_n, maxO_n]
    refine kB_via int_inj (fun m => some (.int ((if m = max (atN lab p.1) (atN lab p.2) then min (atN lab p.1) (atN lab p.2) else m : Nat) : Int))) (by rw [L.len]; omega) (by rfl) ?_ ?_
    · intro m _ s
      simp
      refine wp_ite (fun c => ?_) (fun c => ?_)
      · have c : m = max (atN lab p.1) (atN lab p.2) := by omega
        simp [← c]
      · have c : m ≠ max (atN lab p.1) (atN lab p.2) := by omega
        simp [c]
    have en : (lab.map fun m => D.int ((if m = max (atN lab p.1) (atN lab p.2) then min (atN lab p.1) (atN lab p.2) else m : Nat) : Int)) = numsD (labs n (ps.take (i + 1))) := by
      rw [tk]
      unfold relab numsD
      rw [List.map_map]
      rfl
    rw [filterMap_some', en]
    show I _ _ _
    rw [hI]
    exact ⟨rfl, _, _, _, _, rfl⟩
  · intro ρ s hi
    rw [hI] at hi
    obtain ⟨rfl, a, b, c, e, rfl⟩ := hi
    rw [List.length_map, List.take_length]
    have L := labsOk hp
    generalize labs n ps = lab at L
    have g : ∀ i, i < n → (numsD lab)[i]? = some (.int ((atN lab i : Nat) : Int)) := fun i hi => nums_get (by rw [L.len]; exact hi)
    simp
    rw [rng1_nat (by omega), range_nums]
    simp
    obtain ⟨J, hJ⟩ : ∃ J : Nat → PEnv → Dl → Prop, J = fun i ρ s' => s' = s ∧ ∃ x8, ρ = [.im (.int n), .im (.lst (ps.map pD)), .im (.lst (numsD lab)), a, b, c, e, .mu ((lotsTo n lab i).map natsD), x8, .un] := ⟨_, rfl⟩
    refine for_inv J (by rw [hJ]; exact ⟨rfl, _, rfl⟩) ?_ ?_
    · intro i d ρ s' hd hi
      rw [hJ] at hi
      obtain ⟨rfl, x8, rfl⟩ := hi
      have hi : i < n := by simpa using get_lt hd
      rw [nums_get (by simpa using hi), getD_lt (by simpa using hi), List.getElem_range] at hd
      obtain rfl := Option.some.inj hd
      have lr := lotsTo_len n lab i
      simp [g i hi]
      refine kIf_d (fun h => ?_) (fun h => ?_)
      · have h : atN lab i = i := by omega
        rw [wpS_app (l := (lotsTo n lab i).map natsD) (by simp)]
        simp
        rw [rng1_nat (by omega), range_nums]
        simp
        refine kB_via int_inj (fun m => if atN lab m = i then some (.int (m : Int)) else none) (by simp; omega) (by rfl) ?_ ?_
        · intro m hm s
          have hm : m < n := by simpa using hm
          simp [g m hm]
          refine kCt_b (fun c => ?_) (fun c => ?_)
          · have c : atN lab m = i := by simp at c; omega
            simp [c]
          · have c : atN lab m ≠ i := by simp at c; omega
            simp [c]
        rw [filterMap_if']
        rw [kApp_ok (by simp; omega)]
        simp
        show J _ _ _
        rw [hJ]
        refine ⟨rfl, .im (.int i), ?_⟩
        rw [lotsTo_yes h, List.map_append]
        rfl
      · have h : ¬ atN lab i = i := by omega
        simp
        show J _ _ _
        rw [hJ]
        refine ⟨rfl, .im (.int i), ?_⟩
        rw [lotsTo_no h]
    · intro ρ s' hi
      rw [hJ] at hi
      obtain ⟨rfl, x8, rfl⟩ := hi
      simp [frz]
      rfl
end LF
end
section
set_option Elab.async false
set_option linter.all false
set_option maxRecDepth 10000
set_option pp.maxSteps 3000
namespace LF
open PL
theorem nodup_le {n : Nat} {l : List Nat} (nd : l.Nodup) (h : ∀ x ∈ l, x < n) : l.length ≤ n := by
  have s : l ⊆ List.range n := fun x hx => List.mem_range.mpr (h x hx)
  have := L2.nat_nodup_len l (List.range n) nd s
  simpa using this
/-- a search through what hangs together -/
structure Lot (n : Nat) (ps : List (Nat × Nat)) (lab : List Nat) (i : Nat) (lot : List Nat) (l : List (D × D)) : Prop where
  nd : lot.Nodup
  lt : ∀ x ∈ lot, x < n ∧ atN lab x = i
  me : i ∈ lot
  ll : l.length ≤ i * n + lot.length
  met : ∀ j : Nat, j < n → ((findD l (.inl (.inl (j : Int)))).isSome = true ↔ atN lab j < i ∨ j ∈ lot)
def Clo (ps : List (Nat × Nat)) (lot : List Nat) (x : Nat) : Prop := ∀ p ∈ ps, (x = p.1 → p.2 ∈ lot) ∧ (x = p.2 → p.1 ∈ lot)
theorem Clo.mono {ps : List (Nat × Nat)} {lot lot' : List Nat} {x : Nat} (h : Clo ps lot x) (le : ∀ y ∈ lot, y ∈ lot') : Clo ps lot' x := fun p hp => ⟨fun e => le _ ((h p hp).1 e), fun e => le _ ((h p hp).2 e)⟩
theorem Lot.full {n : Nat} {ps : List (Nat × Nat)} {lab : List Nat} {i : Nat} {lot : List Nat} {l : List (D × D)} (T : Lot n ps lab i lot l) (L : LabOk n ps lab) (hi : i < n) (c : ∀ x ∈ lot, Clo ps lot x) : ∀ j, j < n → (j ∈ lot ↔ atN lab j = i) := by
  intro j hj
  refine ⟨fun h => (T.lt j h).2, fun e => ?_⟩
  have hc : Con ps i j := by
    have := L.con j hj
    rw [e] at this
    exact this.symm
  clear e hj
  induction hc with
  | refl => exact T.me
  | step _ e ih =>
    rcases e with e | e
    · exact (c _ ih _ e).1 rfl
    · exact (c _ ih _ e).2 rfl
theorem Lot.more {n : Nat} {ps : List (Nat × Nat)} {lab : List Nat} {i : Nat} {lot : List Nat} {l : List (D × D)} (T : Lot n ps lab i lot l) {x : Nat} (hx : x < n) (ex : atN lab x = i) (nx : x ∉ lot) : Lot n ps lab i (lot ++ [x]) (putD l (.int (x : Int)) (.bl true)) := by
  refine ⟨?_, fun y hy => ?_, List.mem_append_left _ T.me, ?_, fun j hj => ?_⟩
  · rw [List.nodup_append]
    refine ⟨T.nd, by simp, fun a ha b hb => ?_⟩
    rw [List.mem_singleton.mp hb]
    rintro rfl
    exact nx ha
  · rcases List.mem_append.mp hy with h | h
    · exact T.lt y h
    · rw [List.mem_singleton.mp h]; exact ⟨hx, ex⟩
  · have := putD_len l (.int (x : Int)) (.bl true)
    have := T.ll
    rw [List.length_append]
    show _ ≤ i * n + (lot.length + 1)
    omega
  · rw [findD_put_int, List.mem_append, List.mem_singleton]
    by_cases e : j = x
    · subst e
      rw [if_pos rfl]
      simp
    · rw [if_neg (by omega), T.met j hj]
      simp [e]
theorem F__law_lots_ok {n : Nat} (hn : n ≤ 30) {ps : List (Nat × Nat)} (hp : ∀ q ∈ ps, q.1 < n ∧ q.2 < n) (hl : ps.length ≤ 1000) : F__law_lots [.int n, .lst (ps.map pD)] = pure (lotsD n (labs n ps)) := by
  refine pure_of_wp fun s0 => ?_
  unfold F__law_lots
  refine run_wp ?_
  unfold n__law_lots
  have L := labsOk hp
  generalize labs n ps = lab at L
  simp
  rw [rng1_nat (by omega), range_nums]
  simp
  obtain ⟨I, hI⟩ : ∃ I : Nat → PEnv → Dl → Prop, I = fun i ρ s => s = s0 ∧ ∃ l a b c d e, l.length ≤ i * n ∧ (∀ j : Nat, j < n → ((findD l (.inl (.inl (j : Int)))).isSome = true ↔ atN lab j < i)) ∧ ρ = [.im (.int n), .im (.lst (ps.map pD)), .mu ((lotsTo n lab i).map natsD), .md false l, a, b, c, d, e] := ⟨_, rfl⟩
  refine for_inv I (by rw [hI]; exact ⟨rfl, [], _, _, _, _, _, by simp, by simp, rfl⟩) ?_ ?_
  · intro i d ρ s hd hi
    rw [hI] at hi
    obtain ⟨rfl, l, a, b, c, d8, e, ll, met, rfl⟩ := hi
    have hi : i < n := by simpa using get_lt hd
    rw [nums_get (by simpa using hi), getD_lt (by simpa using hi), List.getElem_range] at hd
    obtain rfl := Option.some.inj hd
    have le := L.le i hi
    have lin : i * n ≤ 900 := Nat.mul_le_mul (show i ≤ 30 by omega) hn
    simp
    refine kIf_b (fun h => ?_) (fun h => ?_)
    · have h := (met i hi).mp h
      simp
      show I _ _ _
      rw [hI]
      refine ⟨rfl, l, _, _, _, _, _, by rw [Nat.add_mul]; omega, fun j hj => ?_, by rw [lotsTo_no (by omega)]⟩
      rw [met j hj]
      refine ⟨fun h => by omega, fun h2 => ?_⟩
      rcases Nat.lt_succ_iff_lt_or_eq.mp h2 with h3 | h3
      · exact h3
      · have := L.idem hj
        rw [h3] at this
        omega
    · have h : atN lab i = i := by
        have : ¬ atN lab i < i := fun z => by rw [(met i hi).mpr z] at h; cases h
        omega
      simp
      rw [wpS_dput (t := false) (l := l) (by simp)]
      simp
      rw [kPut2_ok (by omega) (by simp)]
      simp
      rw [rng1_nat (by omega), range_nums]
      simp
      have T0 : Lot n ps lab i [i] (putD l (.int (i : Int)) (.bl true)) := by
        refine ⟨by simp, fun x hx => by rw [List.mem_singleton.mp hx]; exact ⟨hi, h⟩, by simp, ?_, fun j hj => ?_⟩
        · have := putD_len l (.int (i : Int)) (.bl true)
          show _ ≤ i * n + 1
          omega
        · rw [findD_put_int, List.mem_singleton]
          by_cases e : j = i
          · subst e
            rw [if_pos rfl]
            simp
          · rw [if_neg (by omega), met j hj]
            simp [e]
      obtain ⟨J, hJ⟩ : ∃ J : Nat → PEnv → Dl → Prop, J = fun t ρ s' => s' = s ∧ ∃ lot l c d e, Lot n ps lab i lot l ∧ (∀ u x, u < t → lot[u]? = some x → Clo ps lot x) ∧ ρ = [.im (.int n), .im (.lst (ps.map pD)), .mu ((lotsTo n lab i).map natsD), .md false l, .im (.int i), .mu (numsD lot), c, d, e] := ⟨_, rfl⟩
      refine for_inv J (by rw [hJ]; exact ⟨rfl, [i], _, _, _, _, T0, fun u x hu => absurd hu (by omega), rfl⟩) ?_ ?_
      · intro t d ρ s' hd hj
        rw [hJ] at hj
        obtain ⟨rfl, lot, l, c, d8, e, T, clo, rfl⟩ := hj
        have ht : t < n := by simpa using get_lt hd
        rw [nums_get (by simpa using ht), getD_lt (by simpa using ht), List.getElem_range] at hd
        obtain rfl := Option.some.inj hd
        simp
        obtain ⟨G, hG⟩ : ∃ G : Nat → PEnv → Dl → Prop, G = fun m ρ s2 => s2 = s' ∧ ∃ lot l d e, Lot n ps lab i lot l ∧ (∀ u x, u < t → lot[u]? = some x → Clo ps lot x) ∧ (∀ x, lot[t]? = some x → Clo (ps.take m) lot x) ∧ ρ = [.im (.int n), .im (.lst (ps.map pD)), .mu ((lotsTo n lab i).map natsD), .md false l, .im (.int i), .mu (numsD lot), .im (.int t), d, e] := ⟨_, rfl⟩
        refine for_inv G (by rw [hG]; exact ⟨rfl, lot, l, _, _, T, clo, fun x _ p hp => absurd hp (by simp), rfl⟩) ?_ ?_
        · intro m d ρ s2 hd hg
          rw [hG] at hg
          obtain ⟨rfl, lot, l, d8, e, T, clo, clt, rfl⟩ := hg
          have hm : m < ps.length := by simpa using get_lt hd
          rw [List.getElem?_map, List.getElem?_eq_getElem hm] at hd
          obtain rfl : pD ps[m] = d := Option.some.inj hd
          have tk : ps.take (m + 1) = ps.take m ++ [ps[m]] := List.take_succ_eq_append_getElem hm
          have hpm := List.getElem_mem hm
          obtain ⟨h1, h2⟩ := hp _ hpm
          have he := L.eq _ hpm
          generalize ps[m] = p at h1 h2 he tk hpm
          have lln := nodup_le T.nd fun x hx => (T.lt x hx).1
          have tll := T.ll
          simp
          refine wp_ite (fun ht' => ?_) (fun ht' => ?_)
          · have g := nums_get ht'
            have ex : lot[t]? = some (atN lot t) := by rw [getD_lt ht']; exact List.getElem?_eq_getElem ht'
            generalize atN lot t = x at g ex
            have xm : x ∈ lot := List.mem_of_getElem? ex
            have kx := T.lt x xm
            -- when all is well, the next
            have fin : ∀ (lot' : List Nat) (l' : List (D × D)) (d e : Slot), Lot n ps lab i lot' l' → (∀ y ∈ lot, y ∈ lot') → (∀ u, u < lot.length → lot'[u]? = lot[u]?) → ((x = p.1 → p.2 ∈ lot') ∧ (x = p.2 → p.1 ∈ lot')) →
                G (m + 1) [.im (.int n), .im (.lst (ps.map pD)), .mu ((lotsTo n lab i).map natsD), .md false l', .im (.int i), .mu (numsD lot'), .im (.int t), d, e] s2 := fun lot' l' d e T' sub same hc => by
              rw [hG]
              refine ⟨rfl, lot', l', _, _, T', fun u y hu ey => ?_, fun y ey => ?_, rfl⟩
              · rw [same u (by omega)] at ey
                exact (clo u y hu ey).mono sub
              · rw [same t ht', ex] at ey
                obtain rfl := Option.some.inj ey
                rw [tk]
                intro q hq
                rcases List.mem_append.mp hq with hq | hq
                · exact ((clt x ex).mono sub) q hq
                · rw [List.mem_singleton.mp hq]; exact hc
            simp [g]
            by_cases hx : x = p.1 ∨ x = p.2
            · have hx' : ((x : Int) = (p.1 : Int) ∨ (x : Int) = (p.2 : Int)) := by omega
              obtain ⟨y, ey, hy, ly, hc⟩ : ∃ y : Nat, (p.1 : Int) + (p.2 : Int) - (x : Int) = (y : Int) ∧ y < n ∧ atN lab y = i ∧ ∀ lot' : List Nat, (∀ z ∈ lot, z ∈ lot') → y ∈ lot' → ((x = p.1 → p.2 ∈ lot') ∧ (x = p.2 → p.1 ∈ lot')) := by
                rcases hx with e | e
                · refine ⟨p.2, by omega, h2, by rw [← he, ← e]; exact kx.2, fun lot' sub hy => ⟨fun _ => hy, fun e2 => ?_⟩⟩
                  rw [← e]
                  exact sub _ xm
                · refine ⟨p.1, by omega, h1, by rw [he, ← e]; exact kx.2, fun lot' sub hy => ⟨fun e2 => ?_, fun _ => hy⟩⟩
                  rw [← e]
                  exact sub _ xm
              simp [hx', ey]
              refine kIf_b (fun hm => ?_) (fun hm => ?_)
              · have ny : y ∉ lot := fun z => by
                  have := (T.met y hy).mpr (.inr z)
                  have e2 : findD l (.inl (.inl (y : Int))) = none := by simpa using hm
                  rw [e2] at this
                  cases this
                simp
                rw [wpS_dput (t := false) (l := l) (by simp)]
                simp
                have lle : l.length ≤ 1000 := by omega
                simp [g, ey]
                rw [kPut2_ok lle (by simp)]
                simp
                rw [wpS_app (l := numsD lot) (by simp)]
                simp [g, ey]
                rw [kApp_ok (by simp; omega)]
                have en : numsD lot ++ [.int (y : Int)] = numsD (lot ++ [y]) := by unfold numsD; simp
                simp [en]
                refine fin (lot ++ [y]) _ _ _ (T.more hy ly ny) (fun z hz => List.mem_append_left _ hz) (fun u hu => List.getElem?_append_left hu) (hc _ (fun z hz => List.mem_append_left _ hz) (by simp))
              · have ym : y ∈ lot := by
                  have : (findD l (.inl (.inl (y : Int)))).isSome = true := by simpa using hm
                  rcases (T.met y hy).mp this with z | z
                  · omega
                  · exact z
                simp
                exact fin lot l _ _ T (fun _ h => h) (fun _ _ => rfl) (hc lot (fun _ h => h) ym)
            · have hx' : ¬ ((x : Int) = (p.1 : Int) ∨ (x : Int) = (p.2 : Int)) := by omega
              simp [hx']
              exact fin lot l _ _ T (fun _ h => h) (fun _ _ => rfl) ⟨fun e => absurd (.inl e) hx, fun e => absurd (.inr e) hx⟩
          · simp
            show G _ _ _
            rw [hG]
            exact ⟨rfl, lot, l, _, _, T, clo, fun x hx => absurd (get_lt hx) ht', rfl⟩
        · intro ρ s2 hg
          rw [hG] at hg
          obtain ⟨rfl, lot, l, d8, e, T, clo, clt, rfl⟩ := hg
          show J _ _ _
          rw [hJ]
          refine ⟨rfl, lot, l, _, _, _, T, fun u x hu ex => ?_, rfl⟩
          rw [List.length_map, List.take_length] at clt
          rcases Nat.lt_succ_iff_lt_or_eq.mp hu with h | rfl
          · exact clo u x h ex
          · exact clt x ex
      · intro ρ s' hj
        rw [hJ] at hj
        obtain ⟨rfl, lot, l, c, d8, e, T, clo, rfl⟩ := hj
        rw [nums_len, List.length_range] at clo
        have lln := nodup_le T.nd fun x hx => (T.lt x hx).1
        have full := T.full L hi fun x hx => by
          obtain ⟨u, hu⟩ := List.mem_iff_getElem?.mp hx
          exact clo u x (Nat.lt_of_lt_of_le (get_lt hu) lln) hu
        have ll2 := lotsTo_len n lab i
        have es : sortAO (.lst (numsD lot)) = some (numsD (lotOf n lab i)) := by
          rw [sortA_li fun d hd => by obtain ⟨x, _, rfl⟩ := List.mem_map.mp hd; exact ⟨_, rfl⟩]
          show some (sortL (lot.map fun n : Nat => D.int (n : Int))) = _
          rw [sortL_nats, sort_to T.nd (lotOf_asc n lab i) fun x => ?_]
          · rfl
          · rw [lotOf_mem]
            constructor
            · intro hx
              exact T.lt x hx
            · rintro ⟨hx, e⟩
              exact (full x hx).mpr e
        rw [kSeq_nx, wpS_app (l := (lotsTo n lab i).map natsD) (by simp)]
        simp [es]
        rw [kApp_ok (by simp; omega)]
        simp
        show I _ _ _
        rw [hI]
        refine ⟨rfl, l, _, _, _, _, _, ?_, fun j hj => ?_, by rw [lotsTo_yes h, List.map_append]; rfl⟩
        · have := T.ll
          rw [Nat.add_mul]
          omega
        · rw [T.met j hj, full j hj]
          omega
  · intro ρ s hi
    rw [hI] at hi
    obtain ⟨rfl, l, a, b, c, d8, e, ll, met, rfl⟩ := hi
    simp [frz]
    rfl
end LF
end
section
set_option Elab.async false
set_option linter.all false
set_option maxRecDepth 10000
set_option pp.maxSteps 3000
namespace LF
open PL
/-! the ways of triangles, the edges -/
def waysN (us : List Tri) : List (Nat × Nat) := us.flatMap fun t => [(t.1, t.2.1), (t.2.1, t.2.2), (t.2.2, t.1)]
def mm (w : Nat × Nat) : Nat × Nat := (min w.1 w.2, max w.1 w.2)
/-- the keys of a dict of ways -/
def Keys (l : List (D × D)) (ws : List (Nat × Nat)) : Prop := (∀ p ∈ l, ∃ w ∈ ws, p.1 = pD w) ∧ ∀ w ∈ ws, ∃ p ∈ l, p.1 = pD w
theorem dkey_pD (w : Nat × Nat) : dkey (pD w) = some (.inr [.inl (w.1 : Int), .inl (w.2 : Int)]) := rfl
theorem dkey_pD_inj {w v : Nat × Nat} (h : dkey (pD w) = dkey (pD v)) : w = v := by
  rw [dkey_pD, dkey_pD] at h
  injection h with h
  injection h with h
  injection h with h1 h
  injection h with h2 _
  injection h1 with h1
  injection h2 with h2
  exact Prod.ext (by omega) (by omega)
theorem Keys.put {l : List (D × D)} {ws : List (Nat × Nat)} (h : Keys l ws) (w : Nat × Nat) (v : D) : Keys (putD l (pD w) v) (ws ++ [w]) := by
  unfold putD
  split
  · rename_i ha
    obtain ⟨q, hq, e⟩ := List.any_eq_true.mp ha
    have e := of_decide_eq_true e
    obtain ⟨w', hw', e'⟩ := h.1 q hq
    rw [e'] at e
    have ew := dkey_pD_inj e
    subst ew
    have same : ∀ p : D × D, (if dkey p.1 = dkey (pD w') then (p.1, v) else p).1 = p.1 := fun p => by split <;> rfl
    refine ⟨fun p hp => ?_, fun x hx => ?_⟩
    · obtain ⟨p', hp', rfl⟩ := List.mem_map.mp hp
      obtain ⟨x, hx, ex⟩ := h.1 p' hp'
      exact ⟨x, List.mem_append_left _ hx, by rw [same]; exact ex⟩
    · have hx : x ∈ ws := by
        rcases List.mem_append.mp hx with hx | hx
        · exact hx
        · rw [List.mem_singleton.mp hx]; exact hw'
      obtain ⟨p, hp, ep⟩ := h.2 x hx
      exact ⟨_, List.mem_map.mpr ⟨p, hp, rfl⟩, by rw [same]; exact ep⟩
  · refine ⟨fun p hp => ?_, fun x hx => ?_⟩
    · rcases List.mem_append.mp hp with hp | hp
      · obtain ⟨x, hx, ex⟩ := h.1 p hp
        exact ⟨x, List.mem_append_left _ hx, ex⟩
      · rw [List.mem_singleton.mp hp]
        exact ⟨w, by simp, rfl⟩
    · rcases List.mem_append.mp hx with hx | hx
      · obtain ⟨p, hp, ep⟩ := h.2 x hx
        exact ⟨p, List.mem_append_left _ hp, ep⟩
      · rw [List.mem_singleton.mp hx]
        exact ⟨(pD w, v), by simp, rfl⟩
@[simp] theorem enumO_t {k : Bool} {l : List D} : enumO (.tup k l) = some (enumL l) := id rfl
theorem ways_of_wp {P : List Pt} {us : List Tri} (hl : us.length ≤ 200) {s : Dl} : wp (F_ways_of [meshQ P us] s) (fun r s' => s' = s ∧ ∃ l, r = .dic true l ∧ Keys l (waysN us)) := by
  unfold F_ways_of
  refine run_wp ?_
  unfold n_ways_of meshQ
  simp
  obtain ⟨I, hI⟩ : ∃ I : Nat → PEnv → Dl → Prop, I = fun i ρ s' => s' = s ∧ ∃ l b c d, l.length ≤ 3 * i ∧ Keys l (waysN (us.take i)) ∧ ρ = [.im (.ins "Mesh" [("points", .tup false (P.map ptQ)), ("triangles", .tup false (us.map (triD false)))]), .md true l, b, c, d] := ⟨_, rfl⟩
  refine for_inv I (by rw [hI]; exact ⟨rfl, [], _, _, _, by simp, ⟨by simp, by simp [waysN]⟩, rfl⟩) ?_ ?_
  · intro i d ρ s' hd hi
    rw [hI] at hi
    obtain ⟨rfl, l, b, c, e, ll, K, rfl⟩ := hi
    obtain ⟨x, hx, rfl⟩ := enum_get hd
    have hi : i < us.length := by simpa using get_lt hx
    rw [List.getElem?_map, List.getElem?_eq_getElem hi] at hx
    obtain rfl : triD false us[i] = x := Option.some.inj hx
    have tk : waysN (us.take (i + 1)) = waysN (us.take i) ++ [(us[i].1, us[i].2.1)] ++ [(us[i].2.1, us[i].2.2)] ++ [(us[i].2.2, us[i].1)] := by
      unfold waysN
      rw [List.take_succ_eq_append_getElem hi, List.flatMap_append]
      simp
    generalize us[i] = t at tk
    have K1 := K.put (t.1, t.2.1) (.int (i : Int))
    have K2 := K1.put (t.2.1, t.2.2) (.int (i : Int))
    have K3 := K2.put (t.2.2, t.1) (.int (i : Int))
    have p1 := putD_len l (pD (t.1, t.2.1)) (.int (i : Int))
    have p2 := putD_len (putD l (pD (t.1, t.2.1)) (.int (i : Int))) (pD (t.2.1, t.2.2)) (.int (i : Int))
    have p3 := putD_len (putD (putD l (pD (t.1, t.2.1)) (.int (i : Int))) (pD (t.2.1, t.2.2)) (.int (i : Int))) (pD (t.2.2, t.1)) (.int (i : Int))
    simp [F_ways_ok, kFor_cons]
    rw [wpS_dput (t := true) (l := l) (by simp)]
    simp
    rw [kPut2_ok (by omega) (by simp)]
    simp [kNext_nx, kFor_cons]
    rw [wpS_dput (t := true) (l := putD l (pD (t.1, t.2.1)) (.int (i : Int))) (by rfl)]
    simp
    rw [kPut2_ok (by omega) (by simp)]
    simp [kNext_nx, kFor_cons]
    rw [wpS_dput (t := true) (l := putD (putD l (pD (t.1, t.2.1)) (.int (i : Int))) (pD (t.2.1, t.2.2)) (.int (i : Int))) (by rfl)]
    simp
    rw [kPut2_ok (by omega) (by simp)]
    simp [kNext_nx, kFor_nil]
    show I _ _ _
    rw [hI]
    have p4 : (putD (putD (putD l (pD (t.1, t.2.1)) (.int (i : Int))) (pD (t.2.1, t.2.2)) (.int (i : Int))) (pD (t.2.2, t.1)) (.int (i : Int))).length ≤ 3 * (i + 1) := by omega
    rw [← tk] at K3
    exact ⟨rfl, _, _, _, _, p4, K3, rfl⟩
  · intro ρ s' hi
    rw [hI] at hi
    obtain ⟨rfl, l, b, c, e, ll, K, rfl⟩ := hi
    simp [frz]
    rw [enum_len, List.length_map, List.take_length] at K
    exact K
/-! the edges, by both -/
def accOf (ws : List (Nat × Nat)) (acc : List (Int × Int)) : List (Int × Int) := ws.foldl (fun acc w => insU (toI (mm w)) acc) acc
structure AccOk (ws : List (Nat × Nat)) (acc : List (Int × Int)) : Prop where
  sm : ∀ p ∈ acc, Small p
  so : acc.Pairwise fun a b => codeP a < codeP b
  mem : ∀ p, p ∈ acc ↔ ∃ w ∈ ws, p = toI (mm w)
theorem small_mm {w : Nat × Nat} (h : w.1 < 64 ∧ w.2 < 64) : Small (toI (mm w)) := by
  unfold Small toI mm
  simp only
  omega
theorem AccOk.next {ws : List (Nat × Nat)} {acc : List (Int × Int)} (A : AccOk ws acc) {w : Nat × Nat} (h : w.1 < 64 ∧ w.2 < 64) : AccOk (ws ++ [w]) (insU (toI (mm w)) acc) := by
  have s := small_mm h
  refine ⟨fun p hp => ?_, insU_sorted s A.sm A.so, fun p => ?_⟩
  · rcases (insU_mem s A.sm p).mp hp with e | e
    · rw [e]; exact s
    · exact A.sm p e
  · rw [insU_mem s A.sm p, A.mem]
    constructor
    · rintro (e | ⟨v, hv, e⟩)
      · exact ⟨w, by simp, e⟩
      · exact ⟨v, by simp [hv], e⟩
    · rintro ⟨v, hv, e⟩
      rcases List.mem_append.mp hv with hv | hv
      · exact .inr ⟨v, hv, e⟩
      · rw [List.mem_singleton.mp hv] at e; exact .inl e
/-- few edges -/
theorem AccOk.few {ws : List (Nat × Nat)} {acc : List (Int × Int)} (A : AccOk ws acc) {es : List (Nat × Nat)} (h : ∀ w ∈ ws, mm w ∈ es) : acc.length ≤ es.length := by
  have nd : (acc.map fun p => (codeP p).toNat).Nodup := by
    refine List.pairwise_map.mpr (List.Pairwise.imp_of_mem (fun {a b} ha hb h => ?_) A.so)
    have h1 := A.sm a ha
    have h2 := A.sm b hb
    unfold Small at h1 h2
    unfold codeP at h ⊢
    omega
  have sub : ∀ x ∈ (acc.map fun p => (codeP p).toNat), x ∈ (es.map fun p => p.1 * 64 + p.2) := fun x hx => by
    obtain ⟨p, hp, rfl⟩ := List.mem_map.mp hx
    obtain ⟨w, hw, rfl⟩ := (A.mem p).mp hp
    refine List.mem_map.mpr ⟨mm w, h w hw, ?_⟩
    unfold codeP toI
    simp only
    omega
  have := L2.nat_nodup_len _ _ nd sub
  simpa using this
theorem minA2 {k : Bool} {a b : Int} : minAO false (.tup k [.int a, .int b]) = some (.int (min a b)) := rfl
theorem maxA2 {k : Bool} {a b : Int} : minAO true (.tup k [.int a, .int b]) = some (.int (max a b)) := rfl
theorem setPM_run {me : PEnv → M D} {ρ : PEnv} (hme : ∀ (w : Nat × Nat), me (ρ.set 1 (.im (pD w))) = pure (pD (mm w))) {es : List (Nat × Nat)} (le : es.length ≤ 62) : ∀ (ws done : List (Nat × Nat)) (acc : List (Int × Int)), (∀ w ∈ done ++ ws, (w.1 < 64 ∧ w.2 < 64) ∧ mm w ∈ es) → AccOk done acc →
    setPM (gN 1) me (ws.map pD) acc ρ = pure (accOf ws acc) ∧ AccOk (done ++ ws) (accOf ws acc)
  | [], done, acc, _, A => ⟨rfl, by simpa [accOf] using A⟩
  | w :: ws, done, acc, h, A => by
    have hw := h w (by simp)
    have few := A.few (es := es) fun v hv => (h v (by simp [hv])).2
    have ih := setPM_run hme le ws (done ++ [w]) (insU (toI (mm w)) acc) (by simpa using h) (A.next hw.1)
    have e1 : pairOf (pD (mm w)) = some (toI (mm w)) := by
      have s := small_mm hw.1
      unfold Small toI at s
      show (if _ then _ else _) = _
      rw [if_pos (by simpa [mm, toI] using s)]
      rfl
    refine ⟨?_, by simpa [accOf] using ih.2⟩
    show (lift (some (ρ.set 1 (.im (pD w)))) >>= _) = _
    simp only [lift_some, pure_bind', hme]
    have e2 : noexc (pure (pD (mm w)) : M D) = pure (pD (mm w)) := rfl
    rw [e2]
    simp only [pure_bind', e1, lift_some]
    rw [if_pos (by omega)]
    simp only [pure_bind', lift_some]
    exact ih.1
end LF
end
section
set_option Elab.async false
set_option linter.all false
set_option maxRecDepth 10000
set_option pp.maxSteps 3000
namespace LF
open PL
open PySem (PyData)
theorem pD_pl (p : Nat × Nat) : Pl 1 (pD p) := .tup false (pl_ints [(p.1 : Int), (p.2 : Int)])
theorem eqv_pD (p q : Nat × Nat) : PyData.eqv (encD (pD p)) (encD (pD q)) = decide (p = q) := by
  rw [encD_pD, encD_pD]
  simp only [PyData.eqv, PyData.eqvAll]
  rw [Bool.eq_iff_iff]
  simp only [Bool.and_eq_true, decide_eq_true_eq, beq_iff_eq, Bool.and_true]
  constructor
  · rintro ⟨h1, h2⟩
    exact Prod.ext (by omega) (by omega)
  · rintro rfl
    exact ⟨rfl, rfl⟩
theorem inAny_pD (p : Nat × Nat) (l : List (Nat × Nat)) : inSeqD (pD p) (.lst (l.map pD)) = pure (.bl (decide (p ∈ l))) := by
  have pl : ∀ d ∈ l.map pD, Pl 1 d := fun d hd => by
    obtain ⟨q, _, rfl⟩ := List.mem_map.mp hd
    exact pD_pl q
  have P : Pl 2 (.lst (l.map pD)) := .lst pl
  have e : toPy (.lst (l.map pD)) = some (.list ((l.map pD).map encD)) := by rw [P.py.1, Pl.enc_lst pl]
  have sh := P.shaped (by omega)
  rw [Pl.enc_lst pl] at sh
  have sh2 := (pD_pl p).shaped (by omega)
  unfold inSeqD inSeqO
  rw [e, (pD_pl p).py.1]
  simp only [sh, sh2, Bool.and_self, if_true, Option.map_some, lift_some]
  congr 2
  rw [List.map_map, List.any_map, Bool.eq_iff_iff, List.any_eq_true, decide_eq_true_eq]
  constructor
  · rintro ⟨q, hq, h⟩
    have h : PyData.eqv (encD (pD q)) (encD (pD p)) = true := h
    rw [eqv_pD, decide_eq_true_eq] at h
    rw [← h]
    exact hq
  · intro h
    exact ⟨p, h, by show PyData.eqv (encD (pD p)) (encD (pD p)) = true; rw [eqv_pD]; simp⟩
theorem ninAny_pD (p : Nat × Nat) (l : List (Nat × Nat)) : ninAny (pD p) (.lst (l.map pD)) = pure (.bl (!decide (p ∈ l))) := by
  have h := inAny_pD p l
  unfold inSeqD at h
  show ninSeqD _ _ = _
  unfold ninSeqD
  cases e : inSeqO (pD p) (.lst (l.map pD)) with
  | none =>
    rw [e] at h
    have h2 := congrFun h ⟨[], 0⟩
    cases h2
  | some b =>
    rw [e] at h
    have h2 := congrFun h ⟨[], 0⟩
    simp only [Option.map_some, lift_some] at h2 ⊢
    have h3 : Out.ok (D.bl b) ⟨[], 0⟩ = Out.ok (D.bl (decide (p ∈ l))) ⟨[], 0⟩ := h2
    injection h3 with h3 _
    injection h3 with h3
    rw [h3]
/-- edges, as the law finds them -/
def addN (found : List (Nat × Nat)) (p : Nat × Nat) : List (Nat × Nat) := if p ∈ found then found else found ++ [p]
def edgN (T : List Tri) : List (Nat × Nat) := (waysN T).foldl (fun found w => addN found (mm w)) []
structure EdgOk (ws : List (Nat × Nat)) (l : List (Nat × Nat)) : Prop where
  nd : l.Nodup
  mem : ∀ p, p ∈ l ↔ ∃ w ∈ ws, p = mm w
  le : l.length ≤ ws.length
theorem EdgOk.next {ws l : List (Nat × Nat)} (h : EdgOk ws l) (w : Nat × Nat) : EdgOk (ws ++ [w]) (addN l (mm w)) := by
  unfold addN
  split
  · rename_i hm
    refine ⟨h.nd, fun p => ?_, by rw [List.length_append]; have := h.le; omega⟩
    rw [h.mem]
    constructor
    · rintro ⟨v, hv, e⟩; exact ⟨v, by simp [hv], e⟩
    · rintro ⟨v, hv, e⟩
      rcases List.mem_append.mp hv with hv | hv
      · exact ⟨v, hv, e⟩
      · rw [List.mem_singleton.mp hv] at e
        rw [e]
        exact (h.mem _).mp hm
  · rename_i hm
    refine ⟨?_, fun p => ?_, by rw [List.length_append, List.length_append]; have := h.le; show l.length + 1 ≤ ws.length + 1; omega⟩
    · rw [List.nodup_append]
      refine ⟨h.nd, by simp, fun a ha b hb => ?_⟩
      rw [List.mem_singleton.mp hb]
      rintro rfl
      exact hm ha
    · rw [List.mem_append, h.mem, List.mem_singleton]
      constructor
      · rintro (⟨v, hv, e⟩ | e)
        · exact ⟨v, by simp [hv], e⟩
        · exact ⟨w, by simp, e⟩
      · rintro ⟨v, hv, e⟩
        rcases List.mem_append.mp hv with hv | hv
        · exact .inl ⟨v, hv, e⟩
        · rw [List.mem_singleton.mp hv] at e; exact .inr e
theorem edg_ok : ∀ (ws done l : List (Nat × Nat)), EdgOk done l → EdgOk (done ++ ws) (ws.foldl (fun found w => addN found (mm w)) l)
  | [], done, l, h => by simpa using h
  | w :: ws, done, l, h => by
    have := edg_ok ws (done ++ [w]) (addN l (mm w)) (h.next w)
    simpa using this
theorem edgN_ok (T : List Tri) : EdgOk (waysN T) (edgN T) := by
  have := edg_ok (waysN T) [] [] ⟨by simp, by simp, by simp⟩
  rw [List.nil_append] at this
  exact this
theorem waysN_len (T : List Tri) : (waysN T).length = 3 * T.length := by
  unfold waysN
  induction T with
  | nil => rfl
  | cons t T ih => rw [List.flatMap_cons, List.length_append, ih]; simp; omega
theorem edges_of_ok {P : List Pt} {us : List Tri} (hl : us.length ≤ 200) {es : List (Nat × Nat)} (le : es.length ≤ 62) (hw : ∀ w ∈ waysN us, (w.1 < 64 ∧ w.2 < 64) ∧ mm w ∈ es) {l : List (Nat × Nat)} (nd : l.Nodup) (hm : ∀ p, p ∈ l ↔ ∃ w ∈ waysN us, p = mm w) :
    F_edges_of [meshQ P us] = pure (.tup false ((sortP l).map pD)) := by
  refine pure_of_wp fun s0 => ?_
  unfold F_edges_of
  refine run_wp ?_
  unfold n_edges_of
  simp
  unfold fSetU
  simp
  refine wp_call (ways_of_wp hl) ?_
  rintro _ s1 ⟨rfl, d, rfl, K⟩
  obtain ⟨ws, e1, e2⟩ : ∃ ws : List (Nat × Nat), d.map (·.1) = ws.map pD ∧ ∀ w ∈ ws, w ∈ waysN us := by
    have h := K.1
    clear K
    induction d with
    | nil => exact ⟨[], rfl, by simp⟩
    | cons p d ih =>
      obtain ⟨ws, e1, e2⟩ := ih fun q hq => h q (by simp [hq])
      obtain ⟨w, hw, e⟩ := h p (by simp)
      exact ⟨w :: ws, by simp [e1, e], fun v hv => (List.mem_cons.mp hv).elim (fun z => by rw [z]; exact hw) (e2 v)⟩
  have e3 : ∀ w ∈ waysN us, w ∈ ws := fun w hw => by
    obtain ⟨p, hp, e⟩ := K.2 w hw
    have : pD w ∈ ws.map pD := by rw [← e1, ← e]; exact List.mem_map.mpr ⟨p, hp, rfl⟩
    obtain ⟨v, hv, ev⟩ := List.mem_map.mp this
    rw [← pD_inj _ _ ev]
    exact hv
  have ek : dicKeysO (.dic true d) = some (ws.map pD) := by
    show some (d.map (·.1)) = _
    rw [e1]
  rw [ek]
  simp
  have run := setPM_run (me := mL mkTup (mC (mL (arg1 fun d => lift (minAO false d)) (mC (getI 1) mN)) (mC (mL (arg1 fun d => lift (minAO true d)) (mC (getI 1) mN)) mN))) (ρ := unE [Slot.im (meshQ P us), Slot.un]) (fun w => by
    unfold unE pD mm
    simp [minA2, maxA2]
    rw [show min (w.1 : Int) (w.2 : Int) = ((min w.1 w.2 : Nat) : Int) by omega, show max (w.1 : Int) (w.2 : Int) = ((max w.1 w.2 : Nat) : Int) by omega]) le ws [] [] (by simpa using fun a b h => hw _ (e2 _ h)) ⟨by simp, by simp, by simp⟩
  rw [run.1]
  simp
  have A := run.2
  rw [List.nil_append] at A
  have sm : ∀ p ∈ l, p.1 < 64 ∧ p.2 < 64 := fun p hp => by
    obtain ⟨w, hw', rfl⟩ := (hm p).mp hp
    have := (hw w hw').1
    unfold mm
    simp only
    omega
  have su := sortU_eq (m := l.map toI) nd sm (fun p => by
    rw [List.mem_map]
    constructor
    · rintro ⟨q, hq, rfl⟩; exact ⟨q, hq, rfl⟩
    · rintro ⟨q, hq, rfl⟩; exact ⟨q, hq, rfl⟩)
  have S := sortU_spec (ps := l.map toI) (fun p hp => by
    obtain ⟨q, hq, rfl⟩ := List.mem_map.mp hp
    have := sm q hq
    unfold Small toI
    simp only
    omega)
  have ea : accOf ws [] = (sortP l).map toI := by
    rw [← su]
    refine sorted_uniq A.so S.2 fun p => ?_
    rw [A.mem, S.1, List.mem_map]
    constructor
    · rintro ⟨w, hw', rfl⟩; exact ⟨mm w, (hm _).mpr ⟨w, e2 w hw', rfl⟩, rfl⟩
    · rintro ⟨q, hq, rfl⟩
      obtain ⟨w, hw', rfl⟩ := (hm q).mp hq
      exact ⟨w, e3 w hw', rfl⟩
  rw [ea, List.map_map]
  rfl
theorem edge_step {a0 a2 a3 a4 : Slot} {p : Nat × Nat} {found : List (Nat × Nat)} (hl : found.length ≤ 1000) {s : Dl} {Q : Post} :
    wpS (sIf (mT (mB ninAny (getI 5) (getS 1))) (appM 1 (getI 5)) sNil) [a0, .mu (found.map pD), a2, a3, a4, .im (pD p)] s Q = Q .nx [a0, .mu ((addN found p).map pD), a2, a3, a4, .im (pD p)] s := by
  simp [ninAny_pD]
  unfold addN
  by_cases h : p ∈ found
  · simp [h]
  · simp [h]
    rw [wpS_app (l := found.map pD) (by simp)]
    simp
    rw [kApp_ok (by simpa using hl)]
    simp
@[simp] theorem kA_triD {k : Bool} {gs : List D → PEnv → Option PEnv} {ρ : PEnv} {Q : Post} {t : Tri} {s : Dl} : kA (gTup' gs) ρ Q (triD k t) s = kG gs ρ [.int t.1, .int t.2.1, .int t.2.2] Q s := id rfl
theorem law_edges_ok {T : List Tri} (hl : T.length ≤ 200) : F__law_edges [.lst (T.map (triD true))] = pure (.lst ((sortP (edgN T)).map pD)) := by
  refine pure_of_wp fun s0 => ?_
  unfold F__law_edges
  refine run_wp ?_
  unfold n__law_edges
  have st : ∀ {a0 a2 a3 a4 : Slot} {p : Nat × Nat} {found : List (Nat × Nat)} (hl : found.length ≤ 1000) {s : Dl} {Q : Post}, wpS (sIf (mT (mB ninAny (getI 5) (getS 1))) (appM 1 (getI 5)) sNil) [a0, .mu (found.map pD), a2, a3, a4, .im (pD p)] s Q = Q .nx [a0, .mu ((addN found p).map pD), a2, a3, a4, .im (pD p)] s := edge_step
  generalize sIf (mT (mB ninAny (getI 5) (getS 1))) (appM 1 (getI 5)) sNil = B at st ⊢
  simp
  obtain ⟨I, hI⟩ : ∃ I : Nat → PEnv → Dl → Prop, I = fun i ρ s => s = s0 ∧ ∃ a b c d, ρ = [.im (.lst (T.map (triD true))), .mu ((edgN (T.take i)).map pD), a, b, c, d] := ⟨_, rfl⟩
  refine for_inv I (by rw [hI]; exact ⟨rfl, _, _, _, _, rfl⟩) ?_ ?_
  · intro i d ρ s hd hi
    rw [hI] at hi
    obtain ⟨rfl, a, b, c, e, rfl⟩ := hi
    have hi : i < T.length := by simpa using get_lt hd
    rw [List.getElem?_map, List.getElem?_eq_getElem hi] at hd
    obtain rfl : triD true T[i] = d := Option.some.inj hd
    have tk : edgN (T.take (i + 1)) = addN (addN (addN (edgN (T.take i)) (mm (T[i].1, T[i].2.1))) (mm (T[i].2.1, T[i].2.2))) (mm (T[i].2.2, T[i].1)) := by
      unfold edgN waysN
      rw [List.take_succ_eq_append_getElem hi, List.flatMap_append, List.foldl_append]
      rfl
    have ll := (edgN_ok (T.take i)).le
    rw [waysN_len, List.length_take] at ll
    generalize edgN (T.take i) = found at ll tk
    generalize T[i] = t at tk
    have l1 : (addN found (mm (t.1, t.2.1))).length ≤ found.length + 1 := by unfold addN; split <;> simp
    have l2 : (addN (addN found (mm (t.1, t.2.1))) (mm (t.2.1, t.2.2))).length ≤ (addN found (mm (t.1, t.2.1))).length + 1 := by
      generalize addN found (mm (t.1, t.2.1)) = f
      unfold addN; split <;> simp
    have ep : ∀ a b : Nat, D.tup false [.int ((min a b : Nat) : Int), .int ((max a b : Nat) : Int)] = pD (mm (a, b)) := fun _ _ => rfl
    simp [minO_n, maxO_n, kFor_cons, ep]
    rw [st (by omega)]
    simp [kNext_nx, kFor_cons]
    rw [st (by omega)]
    simp [kNext_nx, kFor_cons]
    rw [st (by omega)]
    simp [kNext_nx, kFor_nil]
    show I _ _ _
    rw [hI]
    exact ⟨rfl, _, _, _, _, by rw [tk]⟩
  · intro ρ s hi
    rw [hI] at hi
    obtain ⟨rfl, a, b, c, e, rfl⟩ := hi
    rw [List.length_map, List.take_length]
    have es : sortAO (.lst ((edgN T).map pD)) = some ((sortP (edgN T)).map pD) := by
      rw [sortA_l (n := 2) (by omega) fun d hd => by
        obtain ⟨q, _, rfl⟩ := List.mem_map.mp hd
        exact ⟨false, [(q.1 : Int), (q.2 : Int)], rfl, rfl⟩]
      rw [sortL_pairs]
    simp [frz, es]
end LF
end
section
set_option Elab.async false
set_option linter.all false
set_option maxRecDepth 10000
set_option pp.maxSteps 3000
namespace LF
open PL Rat
theorem eqD_bl (a b : Bool) : eqD (.bl a) (.bl b) = pure (.bl (a == b)) := by
  rw [eqD_pl (.bl 0 a) (.bl 0 b) (by omega)]
  cases a <;> cases b <;> rfl
theorem neD_bl (a b : Bool) : neD (.bl a) (.bl b) = pure (.bl (!(a == b))) := by
  rw [neD_pl (.bl 0 a) (.bl 0 b) (by omega)]
  cases a <;> cases b <;> rfl
def wt (qs : List Rat) (i : Nat) : Rat := qs.getD i 0
theorem wt_get {qs : List Rat} {i : Nat} (h : i < qs.length) : qs[i]? = some (wt qs i) := by
  unfold wt
  rw [List.getD_eq_getElem?_getD, List.getElem?_eq_getElem h]
  rfl
/-- high, beside a level -/
def hi (qs : List Rat) (l : Rat) (i : Nat) : Bool := decide (l ≤ wt qs i)
structure Sc (P : List Pt) (us : List Tri) (qs : List Rat) (l : Rat) (E : List (Nat × Nat)) (n : Nat) : Prop where
  hE : F_edges_of [meshQ P us] = pure (.tup false (E.map pD))
  lt : ∀ p ∈ E, p.1 < n ∧ p.2 < n
  lE : E.length ≤ 200
  lq : qs.length = n
  lP : P.length = n
  ln : n ≤ 30
  hP : ∀ p ∈ P, PSz 13 5 p
  hq : ∀ q ∈ qs, Fz 5 2 q
  hz : Fz 13 8 l
section
variable {P : List Pt} {us : List Tri} {qs : List Rat} {l : Rat} {E : List (Nat × Nat)} {n : Nat} {k : Bool}
theorem Sc.high (S : Sc P us qs l E n) {i : Nat} (h : i < n) : F_is_high [fieldD qs, frD k l, .int i] = pure (.bl (hi qs l i)) := F_high_ok S.hq S.hz (wt_get (by rw [S.lq]; exact h))
theorem Sc.get (S : Sc P us qs l E n) {i : Nat} (h : i < n) : (qs.map (frD false))[i]? = some (frD false (wt qs i)) := by
  rw [List.getElem?_map, wt_get (by rw [S.lq]; exact h)]
  rfl
theorem Sc.z (S : Sc P us qs l E n) {i : Nat} (h : i < n) : Fz 5 2 (wt qs i) := S.hq _ (List.mem_of_getElem? (wt_get (by rw [S.lq]; exact h)))
theorem Sc.below (S : Sc P us qs l E n) {i : Nat} (h : i < n) : F__law_below [frD false (wt qs i), frD k l] = pure (.bl (!hi qs l i)) := by
  rw [F__law_below_ok (d1 := frD false (wt qs i)) (d2 := frD k l) .f ⟨_, rfl⟩ (S.z h) S.hz (by omega)]
  congr 2
  unfold hi
  rw [Bool.eq_iff_iff]
  simp only [decide_eq_true_eq, Bool.not_eq_true', decide_eq_false_iff_not, Rat.not_le]
theorem Sc.highs (S : Sc P us qs l E n) : F_high_points [meshQ P us, fieldD qs, frD k l] = pure (.tup false (numsD ((List.range n).filter fun i => hi qs l i))) := by
  refine pure_of_wp fun s0 => ?_
  have ln := S.ln
  have lP := S.lP
  have hh : ∀ i, i < n → F_is_high [fieldD qs, frD k l, .int i] = pure (.bl (hi qs l i)) := fun i h => S.high h
  unfold F_high_points
  refine run_wp ?_
  unfold n_high_points
  unfold meshQ
  simp
  rw [lP, rng1_nat (by omega), range_nums]
  simp
  refine kB_via int_inj (fun m => if hi qs l m = true then some (.int (m : Int)) else none) (by simp; omega) (by rfl) ?_ ?_
  · intro m hm s
    have hm : m < n := by simpa using hm
    simp [hh m hm]
    refine kCt_b (fun c => ?_) (fun c => ?_)
    · simp [c]
    · simp [c]
  rw [filterMap_if']
  simp
  rfl
/-- where a level parts the ends of edges -/
def gatesN (f : Nat → Bool) (E : List (Nat × Nat)) : List (Nat × Nat) := E.filterMap fun p => if f p.1 = f p.2 then none else some (if f p.1 = true then p else (p.2, p.1))
theorem gatesN_step (f : Nat → Bool) (E : List (Nat × Nat)) {i : Nat} (h : i < E.length) : gatesN f (E.take (i + 1)) = gatesN f (E.take i) ++ (if f E[i].1 = f E[i].2 then [] else [if f E[i].1 = true then E[i] else (E[i].2, E[i].1)]) := by
  unfold gatesN
  rw [List.take_succ_eq_append_getElem h, List.filterMap_append]
  congr 1
  by_cases c : f E[i].1 = f E[i].2
  · simp [c]
  · simp [c]
theorem gatesN_len (f : Nat → Bool) (E : List (Nat × Nat)) : (gatesN f E).length ≤ E.length := List.length_filterMap_le _ _
theorem gatesN_mem {f : Nat → Bool} {E : List (Nat × Nat)} {g : Nat × Nat} (h : g ∈ gatesN f E) : ((g.1, g.2) ∈ E ∨ (g.2, g.1) ∈ E) ∧ f g.1 = true ∧ f g.2 = false := by
  obtain ⟨p, hp, e⟩ := List.mem_filterMap.mp h
  by_cases c : f p.1 = f p.2
  · rw [if_pos c] at e; cases e
  · rw [if_neg c] at e
    by_cases d : f p.1 = true
    · rw [if_pos d] at e
      cases e
      exact ⟨.inl hp, d, by rw [d] at c; simpa using Ne.symm c⟩
    · rw [if_neg d] at e
      cases e
      have d : f p.1 = false := by simpa using d
      exact ⟨.inr hp, by rw [d] at c; simpa using Ne.symm c, d⟩
theorem sortA_pD (l : List (Nat × Nat)) : sortAO (.lst (l.map pD)) = some ((sortP l).map pD) := by
  rw [sortA_l (n := 2) (by omega) fun d hd => by
    obtain ⟨q, _, rfl⟩ := List.mem_map.mp hd
    exact ⟨false, [(q.1 : Int), (q.2 : Int)], rfl, rfl⟩]
  rw [sortL_pairs]
theorem Sc.gates (S : Sc P us qs l E n) : F_gates [meshQ P us, fieldD qs, frD k l] = pure (.tup false ((sortP (gatesN (hi qs l) E)).map pD)) := by
  refine pure_of_wp fun s0 => ?_
  have hh : ∀ i, i < n → F_is_high [fieldD qs, frD k l, .int i] = pure (.bl (hi qs l i)) := fun i h => S.high h
  have lE := S.lE
  unfold F_gates
  refine run_wp ?_
  unfold n_gates
  simp [S.hE]
  obtain ⟨I, hI⟩ : ∃ I : Nat → PEnv → Dl → Prop, I = fun i ρ s => s = s0 ∧ ∃ a b, ρ = [.im (meshQ P us), .im (fieldD qs), .im (frD k l), .mu ((gatesN (hi qs l) (E.take i)).map pD), a, b] := ⟨_, rfl⟩
  refine for_inv I (by rw [hI]; exact ⟨rfl, _, _, rfl⟩) ?_ ?_
  · intro i d ρ s hd h
    rw [hI] at h
    obtain ⟨rfl, a, b, rfl⟩ := h
    have h : i < E.length := by simpa using get_lt hd
    rw [List.getElem?_map, List.getElem?_eq_getElem h] at hd
    obtain rfl : pD E[i] = d := Option.some.inj hd
    have st := gatesN_step (hi qs l) E h
    obtain ⟨h1, h2⟩ := S.lt _ (List.getElem_mem h)
    have ll := gatesN_len (hi qs l) (E.take i)
    rw [List.length_take] at ll
    generalize E[i] = p at st h1 h2
    simp [hh _ h1, hh _ h2, neD_bl]
    refine kIf_b (fun c => ?_) (fun c => ?_)
    · have c : ¬ hi qs l p.1 = hi qs l p.2 := by simpa using c
      rw [wpS_app (l := (gatesN (hi qs l) (E.take i)).map pD) (by simp)]
      rw [if_neg c] at st
      simp [hh _ h1]
      by_cases d : hi qs l p.1 = true
      · simp [d]
        rw [kApp_ok (by simp; omega)]
        show I _ _ _
        rw [hI]
        rw [if_pos d] at st
        refine ⟨rfl, .im (.int p.1), .im (.int p.2), ?_⟩
        rw [st, List.map_append]
        rfl
      · simp [d]
        rw [kApp_ok (by simp; omega)]
        show I _ _ _
        rw [hI]
        rw [if_neg d] at st
        refine ⟨rfl, .im (.int p.1), .im (.int p.2), ?_⟩
        rw [st, List.map_append]
        rfl
    · have c : hi qs l p.1 = hi qs l p.2 := by simpa using c
      rw [if_pos c, List.append_nil] at st
      simp
      show I _ _ _
      rw [hI]
      exact ⟨rfl, _, _, by rw [st]⟩
  · intro ρ s h
    rw [hI] at h
    obtain ⟨rfl, a, b, rfl⟩ := h
    rw [List.length_map, List.take_length]
    simp [frz, sortA_pD]
end
end LF
end
section
set_option Elab.async false
set_option linter.all false
set_option maxRecDepth 10000
set_option pp.maxSteps 3000
namespace LF
open PL Rat
section
variable {P : List Pt} {us : List Tri} {qs : List Rat} {l : Rat} {E : List (Nat × Nat)} {n : Nat} {k : Bool}
theorem Sc.lawGates (S : Sc P us qs l E n) : F__law_gates [.lst (E.map pD), fieldD qs, frD k l] = pure (.lst ((sortP (gatesN (hi qs l) E)).map pD)) := by
  refine pure_of_wp fun s0 => ?_
  have hh : ∀ i, i < n → F__law_below [frD false (wt qs i), frD k l] = pure (.bl (!hi qs l i)) := fun i h => S.below h
  have hg : ∀ i, i < n → (qs.map (frD false))[i]? = some (frD false (wt qs i)) := fun i h => S.get h
  have lE := S.lE
  unfold F__law_gates
  refine run_wp ?_
  unfold n__law_gates fieldD
  simp
  obtain ⟨I, hI⟩ : ∃ I : Nat → PEnv → Dl → Prop, I = fun i ρ s => s = s0 ∧ ∃ a b, ρ = [.im (.lst (E.map pD)), .im (.tup false (qs.map (frD false))), .im (frD k l), .mu ((gatesN (hi qs l) (E.take i)).map pD), a, b] := ⟨_, rfl⟩
  refine for_inv I (by rw [hI]; exact ⟨rfl, _, _, rfl⟩) ?_ ?_
  · intro i d ρ s hd h
    rw [hI] at h
    obtain ⟨rfl, a, b, rfl⟩ := h
    have h : i < E.length := by simpa using get_lt hd
    rw [List.getElem?_map, List.getElem?_eq_getElem h] at hd
    obtain rfl : pD E[i] = d := Option.some.inj hd
    have st := gatesN_step (hi qs l) E h
    obtain ⟨h1, h2⟩ := S.lt _ (List.getElem_mem h)
    have ll := gatesN_len (hi qs l) (E.take i)
    rw [List.length_take] at ll
    generalize E[i] = p at st h1 h2
    have g1 := hg _ h1
    have g2 := hg _ h2
    rw [List.getElem?_map] at g1 g2
    simp [g1, g2, hh _ h1, hh _ h2, neD_bl]
    refine kIf_b (fun c => ?_) (fun c => ?_)
    · have c : ¬ hi qs l p.1 = hi qs l p.2 := by simpa using c
      rw [wpS_app (l := (gatesN (hi qs l) (E.take i)).map pD) (by simp)]
      rw [if_neg c] at st
      simp [g1, g2, hh _ h1]
      by_cases d : hi qs l p.1 = true
      · simp [d]
        rw [kApp_ok (by simp; omega)]
        show I _ _ _
        rw [hI]
        rw [if_pos d] at st
        refine ⟨rfl, .im (.int p.1), .im (.int p.2), ?_⟩
        rw [st, List.map_append]
        rfl
      · simp [d]
        rw [kApp_ok (by simp; omega)]
        show I _ _ _
        rw [hI]
        rw [if_neg d] at st
        refine ⟨rfl, .im (.int p.1), .im (.int p.2), ?_⟩
        rw [st, List.map_append]
        rfl
    · have c : hi qs l p.1 = hi qs l p.2 := by simpa using c
      rw [if_pos c, List.append_nil] at st
      simp
      show I _ _ _
      rw [hI]
      exact ⟨rfl, _, _, by rw [st]⟩
  · intro ρ s h
    rw [hI] at h
    obtain ⟨rfl, a, b, rfl⟩ := h
    rw [List.length_map, List.take_length]
    simp [frz, sortA_pD]
/-- the edges that a level does not part -/
def tiesN (f : Nat → Bool) (E : List (Nat × Nat)) : List (Nat × Nat) := E.filter fun p => decide (f p.1 = f p.2)
theorem Sc.regions (S : Sc P us qs l E n) : F_regions [meshQ P us, fieldD qs, frD k l] = pure (lotsD n (labs n (tiesN (hi qs l) E))) := by
  refine pure_of_wp fun s0 => ?_
  have hh : ∀ i, i < n → F_is_high [fieldD qs, frD k l, .int i] = pure (.bl (hi qs l i)) := fun i h => S.high h
  have lE := S.lE
  have ln := S.ln
  have lots := F_lots_ok (n := n) (by omega) (ps := tiesN (hi qs l) E) (fun q hq => S.lt q (List.mem_filter.mp hq).1) (Nat.le_trans (List.length_filter_le _ _) (by omega))
  unfold F_regions
  refine run_wp ?_
  unfold n_regions
  simp [S.hE]
  refine kB_via pD_inj (fun p => if hi qs l p.1 = hi qs l p.2 then some (pD p) else none) (by omega) (by rfl) ?_ ?_
  · intro p hp s
    obtain ⟨h1, h2⟩ := S.lt p hp
    simp [hh _ h1, hh _ h2, eqD_bl]
    refine kCt_b (fun c => ?_) (fun c => ?_)
    · have c : hi qs l p.1 = hi qs l p.2 := by simpa using c
      simp [c]
      rfl
    · have c : ¬ hi qs l p.1 = hi qs l p.2 := by simpa using c
      simp [c]
  rw [filterMap_if']
  show wpS _ _ _ _
  have eP : (E.filter fun a => decide (hi qs l a.1 = hi qs l a.2)) = tiesN (hi qs l) E := rfl
  rw [eP]
  have lP := S.lP
  unfold meshQ
  simp [lP, lots]
theorem gatQ {x1 y1 x2 y2 b : Int} (hb : b ≠ 0) (p : Rat) : mov ⟨x1 /. b, y1 /. b⟩ ⟨x2 /. b, y2 /. b⟩ p = ⟨(x1 * (p.den : Int) + (x2 - x1) * p.num) /. ((p.den : Int) * b), (y1 * (p.den : Int) + (y2 - y1) * p.num) /. ((p.den : Int) * b)⟩ := by
  have n1 : (b : Rat) ≠ 0 := by
    intro e
    exact hb (by exact_mod_cast e)
  have n0 : (((p.den : Nat) : Int) : Rat) ≠ 0 := by
    intro e
    have : ((p.den : Nat) : Int) = 0 := by exact_mod_cast e
    have := p.den_pos
    omega
  have n2 := mul_ne n0 n1
  have ep : p = (p.num : Rat) / ((p.den : Nat) : Int) := by
    have h := Rat.mkRat_self p
    rw [Rat.mkRat_eq_div] at h
    rw [Rat.intCast_natCast]
    exact h.symm
  have go : ∀ x y : Int, x /. b + p * (y /. b - x /. b) = (x * (p.den : Int) + (y - x) * p.num) /. ((p.den : Int) * b) := fun x y => by
    simp only [Rat.divInt_eq_div, Rat.intCast_sub, Rat.intCast_mul, Rat.intCast_add]
    generalize (((p.den : Nat) : Int) : Rat) = d at n0 n2 ep
    generalize ((p.num : Int) : Rat) = m at ep
    subst ep
    grind
  unfold mov
  rw [go, go]
end
end LF
end
section
set_option Elab.async false
set_option linter.all false
set_option maxRecDepth 10000
set_option pp.maxSteps 3000
set_option exponentiation.threshold 3000
namespace LF
open PL Rat
open PySem (PyData)
/-- a text of its own, right in form -/
def Rp (d : D) (x : PySem.Str) : Prop := reprO d = some (.str x) ∧ PyData.strOk x = true
theorem Sh.rp {n m : Nat} {d : D} (h : Sh n m d) (hn : n ≤ 60) (hm : m ≤ 2 ^ 24) (hs : isSeqD d = true) : ∃ x, Rp d x := ⟨_, reprO_ok h hn hm hs, h.ok⟩
theorem Sh.nat {i : Nat} (h : i < 2 ^ 60) : Sh 0 1921 (.int (i : Int)) := Sh.int (Nat.lt_of_lt_of_le h (Nat.pow_le_pow_right (by decide) (by decide)))
theorem Sh.nums {l : List Nat} (h : ∀ i ∈ l, i < 2 ^ 60) {c : Nat} (hc : l.length ≤ c) : Sh 1 (1923 * c + 3) (.tup false (numsD l)) :=
  Sh.tup (n := 0) (m := 1921) false (fun d hd => by obtain ⟨i, hi, rfl⟩ := List.mem_map.mp hd; exact Sh.nat (h i hi)) (by simpa using hc)
theorem Sh.pD {p : Nat × Nat} (h : p.1 < 2 ^ 60 ∧ p.2 < 2 ^ 60) : Sh 1 3849 (pD p) :=
  Sh.tup (n := 0) (m := 1921) (c := 2) false (fun d hd => by
    simp only [List.mem_cons, List.not_mem_nil, or_false] at hd
    rcases hd with rfl | rfl
    · exact Sh.nat h.1
    · exact Sh.nat h.2) (by simp)
theorem Sh.pDs {l : List (Nat × Nat)} (h : ∀ p ∈ l, p.1 < 2 ^ 60 ∧ p.2 < 2 ^ 60) (hl : l.length ≤ 200) : Sh 2 770203 (.tup false (l.map LF.pD)) :=
  Sh.tup (n := 1) (m := 3849) (c := 200) false (fun d hd => by obtain ⟨p, hp, rfl⟩ := List.mem_map.mp hd; exact Sh.pD (h p hp)) (by simpa using hl)
theorem Sh.pt {n d : Nat} {p : Pt} (h : PSz n d p) (hn : n < 1920) (hd : d < 1920) : Sh 2 20007 (ptQ p) :=
  Sh.tup (n := 1) (m := 10000) (c := 2) false (fun x hx => by
    simp only [List.mem_cons, List.not_mem_nil, or_false] at hx
    rcases hx with rfl | rfl
    · exact Sh.fr false h.1 hn hd
    · exact Sh.fr false h.2 hn hd) (by simp)
theorem Sh.tri {k : Bool} {t : Tri} (h : t.1 < 2 ^ 60 ∧ t.2.1 < 2 ^ 60 ∧ t.2.2 < 2 ^ 60) : Sh 1 5772 (triD k t) :=
  Sh.tup (n := 0) (m := 1921) (c := 3) k (fun d hd => by
    simp only [List.mem_cons, List.not_mem_nil, or_false] at hd
    rcases hd with rfl | rfl | rfl
    · exact Sh.nat h.1
    · exact Sh.nat h.2.1
    · exact Sh.nat h.2.2) (by simp)
theorem lotsTo_mem {n : Nat} {lab : List Nat} {i : Nat} {c : List Nat} (h : c ∈ lotsTo n lab i) : ∃ f, c = lotOf n lab f := by
  unfold lotsTo at h
  obtain ⟨f, _, e⟩ := List.mem_filterMap.mp h
  split at e
  · exact ⟨f, (Option.some.inj e).symm⟩
  · cases e
theorem Sh.lots {n : Nat} {lab : List Nat} (hn : n ≤ 30) : Sh 2 ((1923 * 30 + 3 + 2) * 30 + 3) (lotsD n lab) := by
  have le := lotsTo_len n lab n
  refine Sh.tup (n := 1) (m := 1923 * 30 + 3) (c := 30) (l := (lotsTo n lab n).map natsD) false (fun d hd => ?_) (by simpa using Nat.le_trans le hn)
  obtain ⟨c, hc, rfl⟩ := List.mem_map.mp hd
  obtain ⟨f, rfl⟩ := lotsTo_mem hc
  exact Sh.nums (fun i hi => by have := (lotOf_mem.mp hi).1; omega) (Nat.le_trans (List.length_filter_le _ _) (by simpa using hn))
/-! the mesh -/
def ptsQ (bot : Int) (ps : List D) : List Pt := ps.map fun d => ⟨(ptOf d).1 /. bot, (ptOf d).2 /. bot⟩
def usQ (ts : List D) : List Tri := (sortL (ts.map fun d => triD false (least3 (triOf d)))).map triOf
theorem us_eq (ts : List D) : (usQ ts).map (triD false) = sortL (ts.map fun d => triD false (least3 (triOf d))) := by
  unfold usQ
  rw [List.map_map]
  conv => rhs; rw [← List.map_id (sortL _)]
  refine List.map_congr_left fun d hd => ?_
  rw [sortL_mem] at hd
  obtain ⟨e, _, rfl⟩ := List.mem_map.mp hd
  rfl
theorem us_perm (ts : List D) : (usQ ts).Perm ((ts.map triOf).map least3) := by
  have h := (sortL_perm (ts.map fun d => triD false (least3 (triOf d)))).map triOf
  rw [List.map_map] at h
  rw [List.map_map]
  exact h
theorem meshD_eq (bot : Int) (ps ts : List D) : meshD bot ps ts = meshQ (ptsQ bot ps) (usQ ts) := by
  unfold meshD meshQ ptsQ
  rw [us_eq, List.map_map]
  rfl
structure Geo (bot : Nat) (ps ts : List D) : Prop where
  m : MeshD 5500 14 51 62 ps ts
  t : ∀ d ∈ ts, TriT ps.length d
  b0 : 0 < bot
  b1 : bot ≤ 25
section
variable {bot : Nat} {ps ts : List D}
theorem Geo.pts (G : Geo bot ps ts) : ∀ p ∈ ptsQ bot ps, PSz 13 5 p := by
  intro p hp
  obtain ⟨d, hd, rfl⟩ := List.mem_map.mp hp
  obtain ⟨k, _, hx, hy⟩ := PtD.eq (G.m.pt d hd)
  have b0 := G.b0
  have b1 := G.b1
  exact ⟨Fz_di (by omega) (by omega) (by omega), Fz_di (by omega) (by omega) (by omega)⟩
theorem Geo.ets (G : Geo bot ps ts) : ts = (ts.map triOf).map (triD true) := by
  rw [List.map_map]
  conv => lhs; rw [← List.map_id ts]
  exact List.map_congr_left fun d hd => (G.t d hd).eq.1
/-- the ways of the triangles, whatever corner they begin at -/
theorem ways_rot (T us : List Tri) (h : us.Perm (T.map least3)) : ∀ p, (∃ w ∈ waysN us, p = mm w) ↔ ∃ w ∈ waysN T, p = mm w := by
  have one : ∀ (t : Tri) w, w ∈ [((least3 t).1, (least3 t).2.1), ((least3 t).2.1, (least3 t).2.2), ((least3 t).2.2, (least3 t).1)] ↔ w ∈ [(t.1, t.2.1), (t.2.1, t.2.2), (t.2.2, t.1)] := fun t w => by
    rcases least3_rot t with e | e | e
    · rw [e]
    · rw [e]
      simp only [List.mem_cons, List.not_mem_nil, or_false]
      constructor <;> (rintro (h | h | h) <;> simp [h])
    · rw [e]
      simp only [List.mem_cons, List.not_mem_nil, or_false]
      constructor <;> (rintro (h | h | h) <;> simp [h])
  have all : ∀ w, w ∈ waysN us ↔ w ∈ waysN T := fun w => by
    unfold waysN
    rw [List.mem_flatMap, List.mem_flatMap]
    constructor
    · rintro ⟨t, ht, hw⟩
      obtain ⟨t', ht', rfl⟩ := List.mem_map.mp (h.mem_iff.mp ht)
      exact ⟨t', ht', (one t' w).mp hw⟩
    · rintro ⟨t, ht, hw⟩
      exact ⟨least3 t, h.mem_iff.mpr (List.mem_map.mpr ⟨t, ht, rfl⟩), (one t w).mpr hw⟩
  intro p
  constructor
  · rintro ⟨w, hw, e⟩; exact ⟨w, (all w).mp hw, e⟩
  · rintro ⟨w, hw, e⟩; exact ⟨w, (all w).mpr hw, e⟩
theorem Geo.ways (G : Geo bot ps ts) : ∃ es : List (Nat × Nat), es.length ≤ 62 ∧ ∀ w ∈ waysN (ts.map triOf), (w.1 < ps.length ∧ w.2 < ps.length) ∧ mm w ∈ es := by
  obtain ⟨es, le, h⟩ := G.m.eb
  refine ⟨es, le, fun w hw => ?_⟩
  obtain ⟨t, ht, hw⟩ := List.mem_flatMap.mp hw
  obtain ⟨d, hd, rfl⟩ := List.mem_map.mp ht
  obtain ⟨e, i1, i2, i3⟩ := (G.t d hd).eq
  have hE := h d hd
  rw [e] at hE
  obtain ⟨h1, h2, h3⟩ := hE.get
  have z : triOf (triD true (triOf d)) = triOf d := rfl
  simp only [List.mem_cons, List.not_mem_nil, or_false] at hw
  rcases hw with rfl | rfl | rfl
  · exact ⟨⟨i1, i2⟩, h1⟩
  · exact ⟨⟨i2, i3⟩, h2⟩
  · exact ⟨⟨i3, i1⟩, h3⟩
def edgQ (ts : List D) : List (Nat × Nat) := sortP (edgN (ts.map triOf))
theorem Geo.sc (G : Geo bot ps ts) {qs : List Rat} {l : Rat} (hq : ∀ q ∈ qs, Fz 5 2 q) (lq : qs.length = ps.length) (hz : Fz 13 8 l) : Sc (ptsQ bot ps) (usQ ts) qs l (edgQ ts) ps.length := by
  have hlp := G.m.lp
  have hlt := G.m.lt
  obtain ⟨es, le, hw⟩ := G.ways
  have ok := edgN_ok (ts.map triOf)
  have rot := ways_rot (ts.map triOf) (usQ ts) (us_perm ts)
  have lu : (usQ ts).length = ts.length := by
    have := (us_perm ts).length_eq
    simpa using this
  have lle := ok.le
  rw [waysN_len, List.length_map] at lle
  have rot2 : ∀ w ∈ waysN (usQ ts), ∃ v ∈ waysN (ts.map triOf), mm w = mm v := fun w h => (rot (mm w)).mp ⟨w, h, rfl⟩
  refine ⟨edges_of_ok (by omega) le (fun w h => ?_) ok.nd (fun p => by rw [ok.mem]; exact (rot p).symm), fun p hp => ?_, ?_, lq, by unfold ptsQ; simp, by omega, G.pts, hq, hz⟩
  · obtain ⟨v, hv, e⟩ := rot2 w h
    obtain ⟨⟨a, b⟩, c⟩ := hw v hv
    unfold mm at e
    injection e with e1 e2
    refine ⟨⟨by omega, by omega⟩, ?_⟩
    unfold mm at c ⊢
    rw [e1, e2]
    exact c
  · obtain ⟨v, hv, e⟩ := (ok.mem p).mp (sortP_mem.mp hp)
    obtain ⟨⟨a, b⟩, c⟩ := hw v hv
    rw [e]
    unfold mm
    simp only
    omega
  · unfold edgQ
    rw [(sortP_perm _).length_eq]
    omega
theorem Geo.gate (G : Geo bot ps ts) {qs : List Rat} {l : Rat} (hq : ∀ q ∈ qs, Fz 5 2 q) (lq : qs.length = ps.length) (hz : Fz 13 8 l) {k : Bool} {g : Nat × Nat} (h1 : g.1 < ps.length) (h2 : g.2 < ps.length) (ne : wt qs g.1 - wt qs g.2 ≠ 0) :
    ∃ p, F_gate_point [meshQ (ptsQ bot ps) (usQ ts), fieldD qs, frD k l, pD g] = pure (ptQ p) ∧ F__law_gate_point [.lst ps, .int bot, fieldD qs, frD k l, pD g] = pure (ptQ p) ∧ PSz 60 40 p := by
  have S := G.sc hq lq hz
  have b0 := G.b0
  have b1 := G.b1
  obtain ⟨k1, e1, x1, y1⟩ := PtD.eq (G.m.pt _ (List.getElem_mem h1))
  obtain ⟨k2, e2, x2, y2⟩ := PtD.eq (G.m.pt _ (List.getElem_mem h2))
  have q1 : ps[g.1]? = some (.tup k1 [.int (ptOf ps[g.1]).1, .int (ptOf ps[g.1]).2]) := by rw [← e1]; exact List.getElem?_eq_getElem h1
  have q2 : ps[g.2]? = some (.tup k2 [.int (ptOf ps[g.2]).1, .int (ptOf ps[g.2]).2]) := by rw [← e2]; exact List.getElem?_eq_getElem h2
  have p1 : (ptsQ bot ps)[g.1]? = some ⟨(ptOf ps[g.1]).1 /. bot, (ptOf ps[g.1]).2 /. bot⟩ := by
    unfold ptsQ
    rw [List.getElem?_map, List.getElem?_eq_getElem h1]
    rfl
  have p2 : (ptsQ bot ps)[g.2]? = some ⟨(ptOf ps[g.2]).1 /. bot, (ptOf ps[g.2]).2 /. bot⟩ := by
    unfold ptsQ
    rw [List.getElem?_map, List.getElem?_eq_getElem h2]
    rfl
  have f1 := wt_get (qs := qs) (i := g.1) (by omega)
  have f2 := wt_get (qs := qs) (i := g.2) (by omega)
  obtain ⟨eg, zg⟩ := F_gate_ok (k := k) (us := usQ ts) S.hP S.hq S.hz p1 p2 f1 f2 ne
  refine ⟨_, eg, ?_, zg⟩
  have za := S.z h1
  have zb := S.z h2
  have s1 := hz.sub zb (m := 15) (by omega) (by omega)
  have s2 := za.sub zb (m := 7) (by omega) (by omega)
  have m1 := F__law_less_ok (d1 := frD k l) (d2 := frD false (wt qs g.2)) ⟨_, rfl⟩ .f hz zb (by omega)
  have m2 := F__law_less_ok (d1 := frD false (wt qs g.1)) (d2 := frD false (wt qs g.2)) .f .f za zb (by omega)
  have o := F__law_over_ok (d1 := frD false (l - wt qs g.2)) (d2 := frD false (wt qs g.1 - wt qs g.2)) .f .f s1 s2 ne (by omega)
  have sp : Fz 20 18 ((l - wt qs g.2) / (wt qs g.1 - wt qs g.2)) := (s1.div s2 ne).mono (by omega) (by omega)
  have eq := gatQ (x1 := (ptOf ps[g.2]).1) (y1 := (ptOf ps[g.2]).2) (x2 := (ptOf ps[g.1]).1) (y2 := (ptOf ps[g.1]).2) (b := (bot : Int)) (by omega) ((l - wt qs g.2) / (wt qs g.1 - wt qs g.2))
  have g1 := S.get h1
  have g2 := S.get h2
  rw [List.getElem?_map] at g1 g2
  unfold gat
  rw [eq]
  generalize (l - wt qs g.2) / (wt qs g.1 - wt qs g.2) = p at o sp
  generalize (ptOf ps[g.1]).1 = X1 at q1 x1
  generalize (ptOf ps[g.1]).2 = Y1 at q1 y1
  generalize (ptOf ps[g.2]).1 = X2 at q2 x2
  generalize (ptOf ps[g.2]).2 = Y2 at q2 y2
  have dp := p.den_pos
  have d18 : p.den ≤ 2 ^ 18 := sp.2
  have n20 : p.num.natAbs ≤ 2 ^ 20 := sp.1
  have w1 : mulOk X2 (p.den : Int) = true := mulOk_s (by omega) (by omega)
  have w2 : mulOk (X1 - X2) p.num = true := mulOk_s (by omega) (by omega)
  have w3 : mulOk Y2 (p.den : Int) = true := mulOk_s (by omega) (by omega)
  have w4 : mulOk (Y1 - Y2) p.num = true := mulOk_s (by omega) (by omega)
  have w5 : mulOk (p.den : Int) (bot : Int) = true := mulOk_s (by omega) (by omega)
  have hb0 : (p.den : Int) * (bot : Int) ≠ 0 := Int.mul_ne_zero (by omega) (by omega)
  have hbl : ((p.den : Int) * (bot : Int)).natAbs < 2 ^ 60 := by
    rw [Int.natAbs_mul, Int.natAbs_natCast, Int.natAbs_natCast]
    have := Nat.mul_le_mul d18 b1
    omega
  have fx := F_frac_ok (t := X2 * (p.den : Int) + (X1 - X2) * p.num) hb0 (n := 60) hbl (by omega)
  have fy := F_frac_ok (t := Y2 * (p.den : Int) + (Y1 - Y2) * p.num) hb0 (n := 60) hbl (by omega)
  refine pure_of_wp fun s => ?_
  unfold F__law_gate_point
  refine run_wp ?_
  unfold n__law_gate_point fieldD pD
  simp [g1, g2, m1, m2, o]
  unfold frD
  simp [q1, q2, mulD_int w1, mulD_int w2, mulD_int w3, mulD_int w4, mulD_int w5, fx, fy]
  rfl
end
end LF
end
section
set_option Elab.async false
set_option linter.all false
set_option maxRecDepth 10000
set_option pp.maxSteps 3000
set_option exponentiation.threshold 3000
namespace LF
open PL Rat
open PySem (PyData)
theorem str_self (x : PySem.Str) : (x == x) = true := by simp
theorem inSeq_nums (i : Nat) (l : List Nat) : inSeqD (.int (i : Int)) (.lst (numsD l)) = pure (.bl (decide (i ∈ l))) := by
  have h := inAny_li (i := (i : Int)) (is := l.map fun n : Nat => (n : Int))
  rw [List.map_map] at h
  have h2 : inSeqD (.int (i : Int)) (.lst (numsD l)) = pure (.bl (decide ((i : Int) ∈ l.map fun n : Nat => (n : Int)))) := h
  rw [h2]
  congr 2
  rw [Bool.eq_iff_iff, decide_eq_true_eq, decide_eq_true_eq, List.mem_map]
  constructor
  · rintro ⟨j, hj, e⟩
    rw [show i = j by omega]
    exact hj
  · intro h
    exact ⟨i, h, rfl⟩
section
variable {bot : Nat} {ps ts : List D}
theorem Geo.right (G : Geo bot ps ts) {qs : List Rat} {l : Rat} {k : Bool} (hq : ∀ q ∈ qs, Fz 5 2 q) (lq : qs.length = ps.length) (hz : Fz 13 8 l) :
    F__law_is_right [meshQ (ptsQ bot ps) (usQ ts), .int bot, .lst ps, .lst ((edgQ ts).map pD), fieldD qs, frD k l] = pure (.bl true) := by
  refine pure_of_wp fun s0 => ?_
  have S := G.sc hq lq hz
  have hlp := G.m.lp
  have hb : ∀ i, i < ps.length → F__law_below [frD false (wt qs i), frD k l] = pure (.bl (!hi qs l i)) := fun i h => S.below h
  have hg : ∀ i, i < ps.length → (qs.map (frD false))[i]? = some (frD false (wt qs i)) := fun i h => S.get h
  have lE := S.lE
  have eh := S.highs (k := k)
  have eg := S.gates (k := k)
  have el := S.lawGates (k := k)
  have er := S.regions (k := k)
  have lots := F__law_lots_ok (n := ps.length) (by omega) (ps := tiesN (hi qs l) (edgQ ts)) (fun q hq => S.lt q (List.mem_filter.mp hq).1) (Nat.le_trans (List.length_filter_le _ _) (by omega))
  have gm : ∀ g ∈ sortP (gatesN (hi qs l) (edgQ ts)), g.1 < ps.length ∧ g.2 < ps.length ∧ wt qs g.1 - wt qs g.2 ≠ 0 := fun g hgm => by
    obtain ⟨h1, h2, h3⟩ := gatesN_mem (sortP_mem.mp hgm)
    have lt : g.1 < ps.length ∧ g.2 < ps.length := by
      rcases h1 with h | h
      · exact S.lt _ h
      · exact ⟨(S.lt _ h).2, (S.lt _ h).1⟩
    refine ⟨lt.1, lt.2, ?_⟩
    unfold hi at h2 h3
    rw [decide_eq_true_eq] at h2
    rw [decide_eq_false_iff_not] at h3
    intro z
    exact h3 (by grind)
  obtain ⟨xh, rh, oh⟩ := Sh.rp (Sh.nums (l := (List.range ps.length).filter fun i => hi qs l i) (c := 30) (fun i h => by have := List.mem_range.mp (List.mem_filter.mp h).1; omega) (Nat.le_trans (List.length_filter_le _ _) (by simp; omega))) (by omega) (by decide) rfl
  obtain ⟨xg, rg, og⟩ := Sh.rp (Sh.pDs (l := sortP (gatesN (hi qs l) (edgQ ts))) (fun p hp => by have := gm p hp; omega) (by rw [(sortP_perm _).length_eq]; exact Nat.le_trans (gatesN_len _ _) lE)) (by omega) (by decide) rfl
  obtain ⟨xl, rl, ol⟩ := Sh.rp (Sh.lots (n := ps.length) (lab := labs ps.length (tiesN (hi qs l) (edgQ ts))) (by omega)) (by omega) (by decide) rfl
  have gates : ∀ g ∈ sortP (gatesN (hi qs l) (edgQ ts)), ∃ d x, F_gate_point [meshQ (ptsQ bot ps) (usQ ts), fieldD qs, frD k l, pD g] = pure d ∧ F__law_gate_point [.lst ps, .int bot, fieldD qs, frD k l, pD g] = pure d ∧ Rp d x := fun g hgm => by
    obtain ⟨h1, h2, h3⟩ := gm g hgm
    obtain ⟨p, e1, e2, z⟩ := G.gate (k := k) hq lq hz h1 h2 h3
    obtain ⟨x, rx⟩ := Sh.rp (Sh.pt z (by omega) (by omega)) (by omega) (by decide) rfl
    exact ⟨_, x, e1, e2, rx⟩
  unfold F__law_is_right
  refine run_wp ?_
  unfold n__law_is_right fieldD at *
  simp
  rw [rng1_nat (by omega), range_nums]
  simp
  refine kB_via int_inj (fun m => if hi qs l m = true then some (.int (m : Int)) else none) (by simp; omega) (by rfl) ?_ ?_
  · intro m hm s
    have hm : m < ps.length := by simpa using hm
    have g1 := hg m hm
    rw [List.getElem?_map] at g1
    simp [g1, hb m hm]
    refine kCt_b (fun c => ?_) (fun c => ?_)
    · have c : hi qs l m = true := by simpa using c
      simp [c]
    · have c : hi qs l m = false := by simpa using c
      simp [c]
  rw [filterMap_if']
  have en : ((List.range ps.length).filter fun a => decide (hi qs l a = true)).map (fun m : Nat => D.int (m : Int)) = numsD ((List.range ps.length).filter fun i => hi qs l i) := by
    unfold numsD
    simp
  rw [en]
  simp [gP, eh, rh, neD_str oh oh, el, eg, rg, neD_str og og]
  obtain ⟨I, hI⟩ : ∃ I : PEnv → Dl → Prop, I = fun ρ s => s = s0 ∧ ∃ a b, ρ = [.im (meshQ (ptsQ bot ps) (usQ ts)), .im (.int bot), .im (.lst ps), .im (.lst ((edgQ ts).map pD)), .im (.tup false (qs.map (frD false))), .im (frD k l), .im (.lst (numsD ((List.range ps.length).filter fun i => hi qs l i))), .im (.lst ((sortP (gatesN (hi qs l) (edgQ ts))).map pD)), a, b, .un, .un, .un] := ⟨_, rfl⟩
  refine for_all I (by rw [hI]; exact ⟨rfl, _, _, rfl⟩) ?_ ?_
  · intro d hd ρ s h
    rw [hI] at h
    obtain ⟨rfl, a, b, rfl⟩ := h
    obtain ⟨g, hgm, rfl⟩ := List.mem_map.mp hd
    obtain ⟨d, x, e1, e2, rx, ox⟩ := gates g hgm
    simp [gP, e1, e2, rx, neD_str ox ox]
    show I _ _
    rw [hI]
    exact ⟨rfl, _, _, rfl⟩
  · intro ρ s h
    rw [hI] at h
    obtain ⟨rfl, a, b, rfl⟩ := h
    simp
    refine kB_via pD_inj (fun p => if hi qs l p.1 = hi qs l p.2 then some (pD p) else none) (by omega) (by rfl) ?_ ?_
    · intro p hp s
      obtain ⟨h1, h2⟩ := S.lt p hp
      have s1 : subAny (pD p) (.int 0) = pure (.int (p.1 : Int)) := rfl
      have s2 : subAny (pD p) (.int 1) = pure (.int (p.2 : Int)) := rfl
      simp [s1, s2, inSeq_nums, h1, h2, eqD_bl]
      refine kCt_b (fun c => ?_) (fun c => ?_)
      · have c : hi qs l p.1 = hi qs l p.2 := by simpa using c
        simp [c]
      · have c : ¬ hi qs l p.1 = hi qs l p.2 := by simpa using c
        simp [c]
    rw [filterMap_if']
    have eP : ((edgQ ts).filter fun a => decide (hi qs l a.1 = hi qs l a.2)) = tiesN (hi qs l) (edgQ ts) := rfl
    rw [eP]
    simp [gP, er, lots, rl, eqD_str ol ol]
end
theorem law2_wp {ds : List Int} {m : Int} (h1 : ds.length ≤ 63) (h2 : m.natAbs < 2 ^ 31) : wpS n_law2 ((List.replicate nn_law.length Slot.un).set 1 (.im .deal)) ⟨ds, m⟩ (fun f _ _ => f = .ret (.bl true)) := by
  obtain ⟨Q, hQ⟩ : ∃ Q : Post, Q = fun f _ _ => f = .ret (.bl true) := ⟨_, rfl⟩
  rw [← hQ]
  unfold n_law2
  simp only [List.length_cons, List.length_nil, List.replicate, List.set_cons_succ, List.set_cons_zero]
  have ok : OkS ⟨ds, m⟩ := ⟨h1, h2⟩
  simp
  refine wp_mono (mesh_wp (most := 6) (more := 2) (.inr rfl) (by omega) ok) ?_
  rintro _ s1 ⟨ok1, k, bot, ps, ts, rfl, b0, b1, hm, ht⟩
  have G : Geo bot ps ts := ⟨hm, ht, b0, b1⟩
  have hlp := hm.lp
  have hlt := hm.lt
  simp
  refine wp_call (made_wp hm.pt ht (by omega) (by omega) b0 (by omega)) ?_
  rintro _ s2 ⟨rfl, rfl⟩
  have ee := law_edges_ok (T := ts.map triOf) (by simp; omega)
  rw [← G.ets] at ee
  have hp0 : 0 < ps.length := by
    obtain ⟨d, l, e⟩ : ∃ d l, ts = d :: l := by
      cases ts with
      | nil => exact absurd hm.ne (by simp)
      | cons d l => exact ⟨d, l, rfl⟩
    obtain ⟨_, h, _⟩ := (ht d (by rw [e]; simp)).eq
    omega
  -- the mesh's own text
  have lP : (ptsQ bot ps).length = ps.length := by unfold ptsQ; simp
  have lu : (usQ ts).length = ts.length := by
    have := (us_perm ts).length_eq
    simpa using this
  have shp : Sh 3 ((20007 + 2) * 30 + 3) (.tup false ((ptsQ bot ps).map ptQ)) := Sh.tup (n := 2) (m := 20007) (c := 30) false (fun d hd => by
    obtain ⟨p, hp, rfl⟩ := List.mem_map.mp hd
    exact Sh.pt (G.pts p hp) (by omega) (by omega)) (by simp; omega)
  have sht : Sh 2 ((5772 + 2) * 200 + 3) (.tup false ((usQ ts).map (triD false))) := Sh.tup (n := 1) (m := 5772) (c := 200) false (fun d hd => by
    obtain ⟨t, htt, rfl⟩ := List.mem_map.mp hd
    obtain ⟨t', ht', rfl⟩ := List.mem_map.mp ((us_perm ts).mem_iff.mp htt)
    obtain ⟨d', hd', rfl⟩ := List.mem_map.mp ht'
    obtain ⟨_, i1, i2, i3⟩ := (ht d' hd').eq
    refine Sh.tri ?_
    have j1 : (triOf d').1 < 2 ^ 60 := by omega
    have j2 : (triOf d').2.1 < 2 ^ 60 := by omega
    have j3 : (triOf d').2.2 < 2 ^ 60 := by omega
    rcases least3_rot (triOf d') with e | e | e
    · rw [e]; exact ⟨j1, j2, j3⟩
    · rw [e]; exact ⟨j2, j3, j1⟩
    · rw [e]; exact ⟨j3, j1, j2⟩) (by simp; omega)
  obtain ⟨xm, rm, om⟩ := Sh.rp (Sh.tup (n := 3) (m := (5772 + 2) * 200 + 3) (c := 2) (l := [.tup false ((ptsQ bot ps).map ptQ), .tup false ((usQ ts).map (triD false))]) false (fun d hd => by
    simp only [List.mem_cons, List.not_mem_nil, or_false] at hd
    rcases hd with rfl | rfl
    · exact shp.mono (by omega) (by omega)
    · exact sht.mono (by omega) (by omega)) (by simp)) (by omega) (by decide) rfl
  have right : ∀ {qs : List Rat} {l : Rat} {k : Bool} (hq : ∀ q ∈ qs, Fz 5 2 q) (lq : qs.length = ps.length) (hz : Fz 13 8 l), F__law_is_right [meshD bot ps ts, .int bot, .lst ps, .lst ((edgQ ts).map pD), fieldD qs, frD k l] = pure (.bl true) := fun hq lq hz => by
    rw [meshD_eq]
    exact G.right hq lq hz
  have fp : mFld "Mesh" "points" (getI 5) = mFld "Mesh" "points" (getI 5) := rfl
  have em : meshD bot ps ts = .ins "Mesh" [("points", .tup false ((ptsQ bot ps).map ptQ)), ("triangles", .tup false ((usQ ts).map (triD false)))] := meshD_eq _ _ _
  have ee2 : F__law_edges [.lst ts] = pure (.lst ((edgQ ts).map pD)) := ee
  rw [em] at right ⊢
  simp [ee2, rm]
  obtain ⟨J, hJ⟩ : ∃ J : PEnv → Dl → Prop, J = fun ρ s => OkS s ∧ ∃ a b c, ρ = [.un, .im .deal, .im (.int bot), .im (.lst ps), .im (.lst ts), .im (.ins "Mesh" [("points", .tup false ((ptsQ bot ps).map ptQ)), ("triangles", .tup false ((usQ ts).map (triD false)))]), .im (.lst ((edgQ ts).map pD)), .im (.str xm), a, b, c] := ⟨_, rfl⟩
  have r2 : rng1O (.int 2) = some (rangeL 0 2) := rfl
  rw [r2]
  simp
  refine for_all J (by rw [hJ]; exact ⟨ok1, _, _, _, rfl⟩) ?_ ?_
  · intro d hd ρ s hi
    rw [hJ] at hi
    obtain ⟨ok, a, b, c, rfl⟩ := hi
    simp
    refine wp_call (field_wp (by omega) ok) ?_
    rintro _ s1 ⟨ok1, qs, rfl, lq, hq⟩
    simp
    rw [r2]
    simp
    refine for_all (fun ρ s => J ρ s ∧ ρ[9]? = some (.im (fieldD qs))) ⟨?_, by simp⟩ ?_ ?_
    · rw [hJ]
      exact ⟨ok1, _, _, _, rfl⟩
    · intro d2 hd2 ρ s hi
      obtain ⟨hi, h9⟩ := hi
      rw [hJ] at hi
      obtain ⟨ok, a, b, c, rfl⟩ := hi
      simp at h9
      subst h9
      simp
      refine wp_call (level_wp (by omega) (by omega) hq ok) ?_
      rintro _ s2 ⟨ok2, l, rfl, hl⟩
      have hl := hl.mono (n' := 13) (d' := 8) (by omega) (by omega)
      simp [right hq lq hl]
      show _ ∧ _
      refine ⟨?_, by simp⟩
      rw [hJ]
      exact ⟨ok2, _, _, _, rfl⟩
    · rintro ρ s ⟨hi, _⟩
      exact hi
  · intro ρ s hi
    rw [hJ] at hi
    obtain ⟨ok, a, b, c, rfl⟩ := hi
    simp [rm, eqD_str om om]
    rw [hQ]
theorem lawEq : LawEq := by
  intro ns hns
  have w1 : wpS n_law1 (.im (.scr ns) :: List.replicate (nn_law.length - 1) .un) ⟨[], 0⟩ (fun f ρ _ => f = .nx ∧ ∃ ds : List Int, ∃ m : Int, ρ = (.im (.scr ns) :: List.replicate (nn_law.length - 1) .un).set 1 (.im (.lst [.lst (ds.map D.int), .int m])) ∧ ds.length ≤ 63 ∧ m.natAbs < 2 ^ 31) := by
    unfold n_law1
    simp only [List.length_cons, List.length_nil, List.replicate, List.set_cons_succ, List.set_cons_zero]
    simp
    refine wp_call (deal_wp hns (by decide)) ?_
    rintro _ s1 ⟨ds, m, rfl, h1, h2⟩
    simp
    exact ⟨ds, m, ⟨rfl, rfl⟩, h1, h2⟩
  obtain ⟨⟨f, ρ⟩, s, e1, hf, ds, m, hρ, h1, h2⟩ := wp_get (show wp (n_law1 _ _) _ from w1)
  obtain ⟨⟨f2, r⟩, s2, e2, hf2⟩ := wp_get (show wp (n_law2 _ _) _ from law2_wp h1 h2)
  simp only at hf hρ hf2
  subst hf
  subst hf2
  refine ⟨ρ, s, .lst [.lst (ds.map D.int), .int m], ds, m, r, s2, e1, ?_, ?_, ?_, e2⟩
  · rw [hρ]; rfl
  · rw [hρ]; rfl
  · show ((ds.map D.int).mapM asIO).map (fun ds => (ds, m)) = _
    rw [mapM_ints]
    rfl
end LF
end
set_option maxRecDepth 100000
theorem PySem.Challenge.cw_leastfield_k77_high_points_gates_and_reg_holds : PySem.Challenge.rw_leastfield_k77_high_points_gates_and_reg.Holds :=
  LF.holds LF.lawEq
